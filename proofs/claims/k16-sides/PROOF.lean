import PyProof.Rows.All
import Wide.All
import OpenK.AllK
import Wide.FinOn
import HandS.ForMost
import HandS.Exc
import HandS.TryOnly
import HandS.ExcOwn
import HandS.WordsExc
import HandS.CallSlots
import HandS.Flow
import HandS.Style
import HandS.TupAny
import HandS.StrMore
import HandS.AnyAll
import HandS.Walk
import HandS.Lambda
import HandS.SortInts
import HandS.Strs
import KE.KSortedM
import KE.GoesEnum
import KE.GoesMore
import KE.GoesZip
import HandS.Conv
import HandS.More
import HandS.Small
import HandS.ForExc
import HandS.GenList
import HandS.Comp
import PyProof.TupleOfGen
import HandS.EndTab
import HandS.HeadWalk
import HandS.HeadHook4
import PySem.Challenge.RW_localestack_k16_texts_of_two_sides
import HandS.Head0
import HandS.Head1
import HandS.Head2
import HandS.HeadEnd
import HandS.EndBits
set_option Elab.async false
set_option linter.all false
/-! Mi: values as trees, a small language of expressions and statements over slots, and what it computes. Plain Lean. -/
namespace Mi
abbrev T := List Nat
/-- a value: trees are never changed; ref i is the changeable cell i -/
inductive D where
  | non | bl (b : Bool) | int (i : Int) | str (s : T) | tup (k : Bool) (xs : List D) | lst (xs : List D) | scr (xs : List Int)
  | dic (ks vs : List D) | ref (i : Nat) | clo (k : Nat) | ins (c : Nat) (ns : List T) (vs : List D)
instance : Inhabited D := ⟨.non⟩
abbrev Mu := List D
abbrev Sl := List (Option D)
/-- what comes of a run: a value, an exception of class c, or nothing that is told -/
inductive R (α : Type) where
  | ok (a : α) (μ : Mu) | exc (c : Nat) (μ : Mu) | no
def R.bnd {α β : Type} (r : R α) (f : α → Mu → R β) : R β := match r with
  | .ok a μ => f a μ
  | .exc c μ => .exc c μ
  | .no => .no
def LINE : Nat := 16777216

/-! ### texts -/
def isPre : T → T → Bool
  | [], _ => true
  | _ :: _, [] => false
  | a :: s, b :: t => a == b && isPre s t
def splGo (S : T) : Nat → T → T → List T
  | _, acc, [] => [acc]
  | 0, acc, c :: r => if isPre S (c :: r) = true then acc :: splGo S (S.length - 1) [] r else splGo S 0 (acc ++ [c]) r
  | k + 1, acc, _ :: r => splGo S k acc r
def splitT (S s : T) : List T := splGo S 0 [] s
def joinT (sep : T) : List T → T
  | [] => []
  | [x] => x
  | x :: r => x ++ sep ++ joinT sep r
def lowC (c : Nat) : Nat := if 65 ≤ c ∧ c ≤ 90 then c + 32 else c
def uppC (c : Nat) : Nat := if 97 ≤ c ∧ c ≤ 122 then c - 32 else c
def asc (s : T) : Bool := s.all (· < 128)
def lowT (s : T) : T := s.map lowC
def uppT (s : T) : T := s.map uppC
def dropEnd (p : Nat → Bool) (s : T) : T := (s.reverse.dropWhile p).reverse
def stripT (cs s : T) : T := dropEnd (cs.contains ·) (s.dropWhile (cs.contains ·))
/-- the first place at which S stands, counted on from k -/
def findGo (S : T) : Nat → T → Option Nat
  | k, [] => if S.isEmpty then some k else none
  | k, c :: r => if isPre S (c :: r) = true then some k else findGo S (k + 1) r
def findT (S s : T) : Int := match findGo S 0 s with
  | some k => k
  | none => -1
def replGo (S N : T) : Nat → T → T
  | _, [] => []
  | 0, c :: r => if isPre S (c :: r) = true then N ++ replGo S N (S.length - 1) r else c :: replGo S N 0 r
  | k + 1, _ :: r => replGo S N k r
def replT (S N s : T) : T := replGo S N 0 s
/-- the last place p with lo ≤ p, p < hi at which the sign c stands -/
def rfindC (c : Nat) (lo hi : Nat) (s : T) : Int :=
  match (List.range' lo (hi + 1 - lo)).foldl (fun last p => if (decide (p + 1 ≤ hi) && s[p]? == some c) = true then some p else last) none with
  | some p => (p : Nat)
  | none => -1

/-! ### places -/
def ixD (n : Nat) (i : Int) : Option Nat := if 0 ≤ i then (if i < n then some i.toNat else none) else if -(n : Int) ≤ i then some (i + n).toNat else none
def clip (n d : Nat) : Option Int → Nat
  | none => d
  | some i => if i < 0 then (i + n).toNat else min i.toNat n
def cutL {α : Type} (xs : List α) (lo hi : Option Int) : List α := (xs.drop (clip xs.length 0 lo)).take (clip xs.length xs.length hi - clip xs.length 0 lo)
def atD {α : Type} (xs : List α) (i : Int) : Option α := (ixD xs.length i).bind fun j => xs[j]?

/-! ### data -/
mutual
/-- Python's == of plain data; a list and a cell that holds a list are alike -/
def eqv : D → D → Bool
  | .non, .non => true
  | .bl a, .bl b => a == b
  | .bl a, .int j => (if a then 1 else 0) == j
  | .int i, .bl b => i == (if b then 1 else 0)
  | .int i, .int j => i == j
  | .str x, .str y => x == y
  | .tup _ xs, .tup _ ys => eqvs xs ys
  | .lst xs, .lst ys => eqvs xs ys
  | _, _ => false
def eqvs : List D → List D → Bool
  | [], [] => true
  | x :: xs, y :: ys => eqv x y && eqvs xs ys
  | _, _ => false
end
mutual
/-- the very same tree -/
def same : D → D → Bool
  | .non, .non => true
  | .bl a, .bl b => a == b
  | .int i, .int j => i == j
  | .str x, .str y => x == y
  | .tup k xs, .tup l ys => k == l && sames xs ys
  | .lst xs, .lst ys => sames xs ys
  | .scr xs, .scr ys => xs == ys
  | .dic ks vs, .dic ls ws => sames ks ls && sames vs ws
  | .ref i, .ref j => i == j
  | .clo i, .clo j => i == j
  | .ins c ns vs, .ins d ms ws => c == d && ns == ms && sames vs ws
  | _, _ => false
def sames : List D → List D → Bool
  | [], [] => true
  | x :: xs, y :: ys => same x y && sames xs ys
  | _, _ => false
end
mutual
/-- plain data: no cell, no dict; depth at most n -/
def plain : Nat → D → Bool
  | _, .non | _, .bl _ | _, .int _ => true
  | _, .str s => s.all (· < 1114112)
  | n + 1, .tup _ xs | n + 1, .lst xs => plains n xs
  | _, _ => false
def plains : Nat → List D → Bool
  | _, [] => true
  | n, x :: xs => plain n x && plains n xs
end
def flat : D → Bool
  | .non | .bl _ | .int _ | .str _ => true
  | _ => false
/-- a cell's list, as data -/
def view (μ : Mu) : D → D
  | .ref i => (match μ[i]? with
    | some (.lst xs) => .lst xs
    | _ => .ref i)
  | d => d
def seqOf (μ : Mu) (d : D) : Option (List D) := match view μ d with
  | .lst xs | .tup _ xs => some xs
  | _ => none
def lstOf (μ : Mu) (d : D) : Option (List D) := match view μ d with
  | .lst xs => some xs
  | _ => none
def toStrs : List D → Option (List T)
  | [] => some []
  | .str s :: r => (toStrs r).map (s :: ·)
  | _ => none
def toInts : List D → Option (List Int)
  | [] => some []
  | .int i :: r => (toInts r).map (i :: ·)
  | _ => none
def dicOf (μ : Mu) (d : D) : Option (List D × List D) := match d with
  | .dic ks vs => some (ks, vs)
  | .ref i => (match μ[i]? with
    | some (.dic ks vs) => some (ks, vs)
    | _ => none)
  | _ => none
def keyEq : D → D → Bool
  | .int i, .int j => i == j
  | .str x, .str y => x == y
  | _, _ => false
def isKey : D → Bool
  | .int _ | .str _ => true
  | _ => false
def getK (k : D) : List D → List D → Option D
  | k' :: ks, v :: vs => if keyEq k' k then some v else getK k ks vs
  | _, _ => none
def hasK (k : D) (ks : List D) : Bool := ks.any (keyEq · k)
def repV (k v : D) : List D → List D → List D
  | k' :: ks, w :: vs => (if keyEq k' k then v else w) :: repV k v ks vs
  | _, _ => []
def putV (k v : D) (ks vs : List D) : List D := if hasK k ks then repV k v ks vs else vs ++ [v]
def putKs (k : D) (ks : List D) : List D := if hasK k ks then ks else ks ++ [k]
def truth (μ : Mu) (d : D) : Option Bool := match d with
  | .non => some false
  | .bl b => some b
  | .int i => some (i != 0)
  | .str s => if s.length ≤ LINE then some (!s.isEmpty) else none
  | d => (seqOf μ d).map (!·.isEmpty)

/-! ### operations -/
inductive BO | add | sub | mul | fdiv | mod | pow
inductive CO | eq | ne | lt | le | gt | ge | isin | nin | is | isn
def inM (μ : Mu) (x y : D) : Option Bool := match y with
  | .str z => (match x with
    | .str [c] => some (z.contains c)
    | _ => none)
  | y => (match dicOf μ y with
    | some (ks, _) => if isKey x then some (hasK x ks) else none
    | none => (match seqOf μ y with
      | some ys => if flat x && ys.all flat then some (ys.any (eqv · x)) else none
      | none => none))
def cmpM (o : CO) (μ : Mu) (x y : D) : Option Bool := match o with
  | .eq => if plain 20 (view μ x) && plain 20 (view μ y) then some (eqv (view μ x) (view μ y)) else none
  | .ne => if plain 20 (view μ x) && plain 20 (view μ y) then some (!eqv (view μ x) (view μ y)) else none
  | .lt => (match x, y with
    | .int i, .int j => some (decide (i < j))
    | _, _ => none)
  | .le => (match x, y with
    | .int i, .int j => some (decide (i ≤ j))
    | _, _ => none)
  | .gt => (match x, y with
    | .int i, .int j => some (decide (j < i))
    | _, _ => none)
  | .ge => (match x, y with
    | .int i, .int j => some (decide (j ≤ i))
    | _, _ => none)
  | .isin => inM μ x y
  | .nin => (inM μ x y).map (!·)
  | .is => (match x, y with
    | .non, .non => some true
    | .ref _, .non => none
    | _, .non => some false
    | _, _ => none)
  | .isn => (match x, y with
    | .non, .non => some false
    | .ref _, .non => none
    | _, .non => some true
    | _, _ => none)
def two64 : Int := 18446744073709551616
def small (i : Int) : Bool := decide (-two64 < i) && decide (i < two64)
def repL {α : Type} (n : Nat) (xs : List α) : List α := (List.replicate n xs).flatten
def binM (o : BO) (μ : Mu) (x y : D) : Option D := match o with
  | .add => (match x, y with
    | .int i, .int j => some (.int (i + j))
    | .str a, .str b => if a.length + b.length ≤ LINE then some (.str (a ++ b)) else none
    | x, y => (match lstOf μ x, lstOf μ y with
      | some xs, some ys => if xs.length + ys.length ≤ LINE then some (.lst (xs ++ ys)) else none
      | _, _ => none))
  | .sub => (match x, y with
    | .int i, .int j => some (.int (i - j))
    | _, _ => none)
  | .mul => (match x, y with
    | .int i, .int j => if small i || small j then some (.int (i * j)) else none
    | .str a, .int j => if decide (-100000 ≤ j) && decide (j ≤ 100000) && decide (a.length ≤ 100) then some (.str (repL j.toNat a)) else none
    | x, .int j => (match lstOf μ x with
      | some xs => if decide (-100000 ≤ j) && decide (j ≤ 100000) && decide (xs.length ≤ 100) then some (.lst (repL j.toNat xs)) else none
      | none => none)
    | _, _ => none)
  | .fdiv => (match x, y with
    | .int i, .int j => if decide (0 < j) && decide (j < 1073741824) then some (.int (i / j)) else none
    | _, _ => none)
  | .mod => (match x, y with
    | .int i, .int j => if decide (0 < j) then some (.int (i % j)) else none
    | _, _ => none)
  | .pow => (match x, y with
    | .int i, .int j => if decide (0 ≤ j) && decide (j ≤ 1000) && small i then some (.int (i ^ j.toNat)) else none
    | _, _ => none)
inductive BF | len | str | int | abs | sum | min | max | tuple | sorted
def maxI : Int → List Int → Int
  | m, [] => m
  | m, x :: r => maxI (if x > m then x else m) r
def minI : Int → List Int → Int
  | m, [] => m
  | m, x :: r => minI (if x < m then x else m) r
def insI (x : Int) : List Int → List Int
  | [] => [x]
  | y :: r => if x ≤ y then x :: y :: r else y :: insI x r
def sortI : List Int → List Int
  | [] => []
  | x :: r => insI x (sortI r)
def bltM (b : BF) (μ : Mu) (as : List D) : Option D := match b with
  | .len => (match as with
    | [.str s] => if s.length ≤ LINE then some (.int s.length) else none
    | [d] => (match dicOf μ d with
      | some (ks, _) => some (.int ks.length)
      | none => (seqOf μ d).map fun xs => .int xs.length)
    | _ => none)
  | .abs => (match as with
    | [.int i] => some (.int (if i < 0 then -i else i))
    | _ => none)
  | .int => (match as with
    | [.int i] => some (.int i)
    | [.bl b] => some (.int (if b then 1 else 0))
    | _ => none)
  | .str => none
  | .sum => (match as with
    | [d] => ((lstOf μ d).bind toInts).map fun ns => .int ns.sum
    | _ => none)
  | .min => (match as with
    | [.int i, .int j] => some (.int (if j < i then j else i))
    | [d] => (match (lstOf μ d).bind toInts with
      | some (n :: ns) => some (.int (minI n ns))
      | _ => none)
    | _ => none)
  | .max => (match as with
    | [.int i, .int j] => some (.int (if j > i then j else i))
    | [d] => (match (lstOf μ d).bind toInts with
      | some (n :: ns) => some (.int (maxI n ns))
      | _ => none)
    | _ => none)
  | .tuple => (match as with
    | [d] => (match view μ d with
      | .lst xs => some (.tup true xs)
      | .tup k xs => some (.tup k xs)
      | _ => none)
    | _ => none)
  | .sorted => (match as with
    | [d] => (match (seqOf μ d).bind toInts with
      | some ns => if ns.length < 64 then some (.lst ((sortI ns).map .int)) else none
      | none => none)
    | _ => none)
/-- list(d) -/
def lsofM (μ : Mu) (d : D) : Option (List D) := match d with
  | .dic ks _ => some ks
  | d => seqOf μ d
inductive MF | join | split | strip | lower | upper | find | rfind | index | get | replace
/-- the first place of x in flat items -/
def indexD (x : D) : Nat → List D → Option Nat
  | _, [] => none
  | k, y :: r => if eqv y x then some k else indexD x (k + 1) r
def sumL : List T → Nat
  | [] => 0
  | x :: r => x.length + sumL r
def mthM (m : MF) (μ : Mu) (o : D) (as : List D) : Option D := match m with
  | .join => (match o, as with
    | .str s, [d] => (match (seqOf μ d).bind toStrs with
      | some xs => if sumL xs + xs.length * s.length ≤ LINE then some (.str (joinT s xs)) else none
      | none => none)
    | _, _ => none)
  | .split => (match o, as with
    | .str s, [.str c] => if !c.isEmpty && asc c && decide (s.length + 2 ≤ LINE) then some (.lst ((splitT c s).map .str)) else none
    | _, _ => none)
  | .strip => (match o, as with
    | .str s, [.str c] => if s.length ≤ LINE then some (.str (stripT c s)) else none
    | _, _ => none)
  | .lower => (match o, as with
    | .str s, [] => if asc s && decide (s.length ≤ 1000000) then some (.str (lowT s)) else none
    | _, _ => none)
  | .upper => (match o, as with
    | .str s, [] => if asc s && decide (s.length ≤ 1000000) then some (.str (uppT s)) else none
    | _, _ => none)
  | .find => (match o, as with
    | .str s, [.str c] => some (.int (findT c s))
    | _, _ => none)
  | .rfind => (match o, as with
    | .str s, [.str [c], .int lo, .int hi] => if decide (0 ≤ lo) && decide (lo ≤ hi) then some (.int (rfindC c lo.toNat (min hi.toNat s.length) s)) else none
    | _, _ => none)
  | .index => (match as with
    | [x] => (match view μ o with
      | .lst xs | .tup true xs => if flat x && xs.all flat then (indexD x 0 xs).map fun k => .int k else none
      | _ => none)
    | _ => none)
  | .get => (match as with
    | [k, x] => (match dicOf μ o with
      | some (ks, vs) => if isKey k then some ((getK k ks vs).getD x) else none
      | none => none)
    | _ => none)
  | .replace => (match o, as with
    | .str s, [.str a, .str b] => if !a.isEmpty && decide (s.length ≤ 10000) && decide (b.length ≤ 100) then some (.str (replT a b s)) else none
    | _, _ => none)
/-- what the method is asked of -/
def recvM (m : MF) (μ : Mu) (x : D) : Bool := match m with
  | .index => (match view μ x with
    | .lst _ | .tup true _ => true
    | _ => false)
  | .get => (dicOf μ x).isSome
  | _ => (match x with
    | .str _ => true
    | _ => false)
def subM (μ : Mu) (a i : D) : Option D := match a, i with
  | .str s, .int i => if s.length ≤ LINE then (atD s i).map fun c => .str [c] else none
  | a, i => (match dicOf μ a with
    | some (ks, vs) => if isKey i then getK i ks vs else none
    | none => (match i, seqOf μ a with
      | .int i, some xs => atD xs i
      | _, _ => none))
def slcM (μ : Mu) (a : D) (lo hi : Option Int) : Option D := match view μ a with
  | .str s => if s.length ≤ LINE then some (.str (cutL s lo hi)) else none
  | .lst xs => some (.lst (cutL xs lo hi))
  | .tup _ xs => some (.tup false (cutL xs lo hi))
  | .scr ns => some (.lst ((cutL ns lo hi).map .int))
  | _ => none
def revM (μ : Mu) (a : D) : Option D := match view μ a with
  | .lst xs => some (.lst xs.reverse)
  | _ => none

/-! ### the language -/
inductive Tg | one (i : Nat) | tup (l : List Tg)
mutual
inductive E where
  | var (i : Nat) | cst (d : D) | glo (g : Nat) | bin (o : BO) (a b : E) | neg (a : E) | not (a : E) | cmp (o : CO) (a b : E) | chn (a : E) (l : Ch)
  | and (a b : E) | or (a b : E) | ife (c a b : E) | call (f : Nat) (as : Es) | blt (b : BF) (as : Es) | mth (m : MF) (o : E) (as : Es)
  | sub (a i : E) | slc (a : E) (lo hi : Eo) | rev (a : E) | tup (as : Es) | lst (cell : Bool) (as : Es) | dic (cell : Bool) (as : Es)
  | comp (cell : Bool) (t : Tg) (it : It) (c : Eo) (e : E) | lsof (cell : Bool) (e : E) | lrng (cell : Bool) (as : Es)
  | gen (g : GF) (t : Tg) (it : It) (c : Eo) (e : E) | lam (k : Nat) | callv (i : Nat)
inductive Es where
  | nil | cons (e : E) (r : Es)
inductive Eo where
  | none | some (e : E)
inductive Ch where
  | last (o : CO) (b : E) | more (o : CO) (b : E) (l : Ch)
inductive It where
  | seq (e : E) | rng (as : Es) | enm (e : E) | zip (a b : E) | itm (e : E)
inductive GF where
  | any | all | tuple
end
structure Env where
  fn : Nat → List D → Mu → R D
  glob : Nat → D
  /-- a closed lambda called -/
  clo : Nat → Mu → R D
def opt {α : Type} (o : Option α) (μ : Mu) : R α := match o with
  | some d => .ok d μ
  | none => .no
/-- a new cell, or the tree itself -/
def fresh (cell : Bool) (d : D) (μ : Mu) : R D := if cell then .ok (.ref μ.length) (μ ++ [d]) else .ok d μ
mutual
def bindT (μ : Mu) : Tg → D → Sl → Option Sl
  | .one i, d, σ => if i < σ.length then some (σ.set i (some d)) else none
  | .tup l, d, σ => (match seqOf μ d with
    | some xs => bindTs μ l xs σ
    | none => none)
def bindTs (μ : Mu) : List Tg → List D → Sl → Option Sl
  | [], [], σ => some σ
  | t :: l, x :: xs, σ => (match bindT μ t x σ with
    | some σ' => bindTs μ l xs σ'
    | none => none)
  | _, _, _ => none
end
/-- the cells that are walked over, and what stood in them: they must stand -/
abbrev Wt := List (Nat × List D)
def wOk (ws : Wt) (μ : Mu) : Bool := ws.all fun p => match μ[p.1]? with
  | some (.lst ys) => sames p.2 ys
  | _ => false
/-- over the items from the left, keeping what f keeps -/
def mapR (ws : Wt) (f : D → Mu → R (Option D)) : List D → Mu → R (List D)
  | [], μ => if wOk ws μ = true then .ok [] μ else .no
  | x :: xs, μ => if wOk ws μ = true then (f x μ).bnd fun o μ => (mapR ws f xs μ).bnd fun ys μ => .ok (match o with
    | some y => y :: ys
    | none => ys) μ else .no
def R.calm {α : Type} (r : R α) : R α := match r with
  | .exc _ _ => .no
  | r => r
def rngL (lo hi st : Int) : Option (List D) :=
  if small lo && small hi && decide (lo.natAbs < 1000000) && decide (hi.natAbs < 1000000) then
    (if st == 1 then some ((List.range (hi - lo).toNat).map fun (k : Nat) => .int (lo + k))
     else if st == -1 then some ((List.range (lo - hi).toNat).map fun (k : Nat) => .int (lo - k)) else none)
  else none
def enumL : Nat → List D → List D
  | _, [] => []
  | k, x :: r => .tup false [.int k, x] :: enumL (k + 1) r
def zipL : List D → List D → List D
  | x :: r, y :: s => .tup false [x, y] :: zipL r s
  | _, _ => []
def rngM (xs : List D) : Option (List D) := match xs with
  | [.int a] => rngL 0 a 1
  | [.int a, .int b] => rngL a b 1
  | [.int a, .int b, .int c] => if c == -1 then rngL a b c else none
  | _ => none
/-- the items that a for walks over -/
def lsIt (μ : Mu) (d : D) : Option (List D × Wt) := match d with
  | .tup _ xs | .lst xs => some (xs, [])
  | .ref i => (match μ[i]? with
    | some (.lst xs) => some (xs, [(i, xs)])
    | _ => none)
  | _ => none
/-- .. of a text too -/
def seqIt (μ : Mu) (d : D) : Option (List D × Wt) := match d with
  | .str s => if s.length ≤ LINE then some (s.map fun c => .str [c], []) else none
  | d => lsIt μ d
def zipIt (μ : Mu) (x y : D) : Option (List D × Wt) := match seqIt μ x, seqIt μ y with
  | some (xs, w), some (ys, v) => some (zipL xs ys, w ++ v)
  | _, _ => none
mutual
def tgS : Tg → List Nat
  | .one i => [i]
  | .tup l => tgsS l
def tgsS : List Tg → List Nat
  | [] => []
  | t :: l => tgS t ++ tgsS l
end
/-- the slots forgotten -/
def wipeM (σ : Sl) : List Nat → Sl
  | [] => σ
  | v :: vs => (wipeM σ vs).set v none
/-- an element's turn: none where the test is false -/
def turnM (t : Tg) (σ : Sl) (fq : Sl → Mu → R Bool) (fe : Sl → Mu → R D) (x : D) (μ : Mu) : R (Option D) := match bindT μ t x (wipeM σ (tgS t)) with
  | none => .no
  | some σ' => (fq σ' μ).bnd fun b μ => if b = true then (fe σ' μ).bnd fun y μ => .ok (some y) μ else .ok none μ
/-- any (b0 = true), all (b0 = false): the first b0 ends the walk -/
def anyR (b0 : Bool) (ws : Wt) (f : D → Mu → R (Option D)) : List D → Mu → R Bool
  | [], μ => if wOk ws μ = true then .ok (!b0) μ else .no
  | x :: xs, μ => if wOk ws μ = true then (f x μ).bnd fun o μ => (match o with
    | none => anyR b0 ws f xs μ
    | some (.bl b) => if b = b0 then .ok b0 μ else anyR b0 ws f xs μ
    | some _ => .no) else .no
def genF (g : GF) (ws : Wt) (f : D → Mu → R (Option D)) (xs : List D) (μ : Mu) : R D := match g with
  | .any => (anyR true ws f xs μ).calm.bnd fun b μ => .ok (.bl b) μ
  | .all => (anyR false ws f xs μ).calm.bnd fun b μ => .ok (.bl b) μ
  | .tuple => (mapR ws f xs μ).calm.bnd fun ys μ => .ok (.tup true ys) μ
mutual
def ev (Φ : Env) : E → Sl → Mu → R D
  | .var i, σ, μ => (match σ[i]? with
    | some (some d) => .ok d μ
    | _ => .no)
  | .cst d, _, μ => .ok d μ
  | .glo g, _, μ => .ok (Φ.glob g) μ
  | .bin o a b, σ, μ => (ev Φ a σ μ).bnd fun x μ => (ev Φ b σ μ).bnd fun y μ => opt (binM o μ x y) μ
  | .neg a, σ, μ => (ev Φ a σ μ).bnd fun x μ => (match x with
    | .int i => .ok (.int (-i)) μ
    | _ => .no)
  | .not a, σ, μ => (ev Φ a σ μ).bnd fun x μ => (opt (truth μ x) μ).bnd fun b μ => .ok (.bl (!b)) μ
  | .cmp o a b, σ, μ => (ev Φ a σ μ).bnd fun x μ => (ev Φ b σ μ).bnd fun y μ => opt ((cmpM o μ x y).map .bl) μ
  | .chn a l, σ, μ => (ev Φ a σ μ).bnd fun x μ => (evC Φ l x σ μ).bnd fun b μ => .ok (.bl b) μ
  | .and a b, σ, μ => (ev Φ a σ μ).bnd fun x μ => (opt (truth μ x) μ).bnd fun t μ => if t = true then ev Φ b σ μ else .ok x μ
  | .or a b, σ, μ => (ev Φ a σ μ).bnd fun x μ => (opt (truth μ x) μ).bnd fun t μ => if t = true then .ok x μ else ev Φ b σ μ
  | .ife c a b, σ, μ => (evT Φ c σ μ).bnd fun t μ => if t = true then ev Φ a σ μ else ev Φ b σ μ
  | .call f as, σ, μ => (evs Φ as σ μ).bnd fun xs μ => Φ.fn f xs μ
  | .blt b as, σ, μ => (evs Φ as σ μ).bnd fun xs μ => opt (bltM b μ xs) μ
  | .mth m o as, σ, μ => (ev Φ o σ μ).bnd fun x μ => if recvM m μ x = true then (evs Φ as σ μ).bnd fun xs μ => opt (mthM m μ x xs) μ else .no
  | .sub a i, σ, μ => (ev Φ a σ μ).bnd fun x μ => (ev Φ i σ μ).bnd fun y μ => opt (subM μ x y) μ
  | .slc a lo hi, σ, μ => (ev Φ a σ μ).bnd fun x μ => (evo Φ lo σ μ).bnd fun l μ => (evo Φ hi σ μ).bnd fun h μ => opt (slcM μ x l h) μ
  | .rev a, σ, μ => (ev Φ a σ μ).bnd fun x μ => opt (revM μ x) μ
  | .tup as, σ, μ => (evs Φ as σ μ).bnd fun xs μ => .ok (.tup false xs) μ
  | .lst c as, σ, μ => (evs Φ as σ μ).bnd fun xs μ => fresh c (.lst xs) μ
  | .dic c as, σ, μ => (evd Φ as σ μ [] []).bnd fun p μ => fresh c (.dic p.1 p.2) μ
  | .comp c t it q e, σ, μ => (evi Φ it σ μ).bnd fun p μ => (mapR p.2 (turnM t σ (evq Φ q) (ev Φ e)) p.1 μ).calm.bnd fun ys μ => fresh c (.lst ys) μ
  | .lsof c e, σ, μ => (ev Φ e σ μ).bnd fun x μ => (opt (lsofM μ x) μ).bnd fun xs μ => fresh c (.lst xs) μ
  | .lrng c as, σ, μ => (evs Φ as σ μ).bnd fun xs μ => (opt (rngM xs) μ).bnd fun xs μ => fresh c (.lst xs) μ
  | .gen g t it q e, σ, μ => (evi Φ it σ μ).bnd fun p μ => genF g p.2 (turnM t σ (evq Φ q) (ev Φ e)) p.1 μ
  | .lam k, _, μ => .ok (.clo k) μ
  | .callv i, σ, μ => (match σ[i]? with
    | some (some (.clo k)) => Φ.clo k μ
    | _ => .no)
/-- a test -/
def evT (Φ : Env) : E → Sl → Mu → R Bool
  | .not a, σ, μ => (evT Φ a σ μ).bnd fun b μ => .ok (!b) μ
  | .and a b, σ, μ => (evT Φ a σ μ).bnd fun t μ => if t = true then evT Φ b σ μ else .ok false μ
  | .or a b, σ, μ => (evT Φ a σ μ).bnd fun t μ => if t = true then .ok true μ else evT Φ b σ μ
  | .ife c a b, σ, μ => (evT Φ c σ μ).bnd fun t μ => if t = true then evT Φ a σ μ else evT Φ b σ μ
  | .cmp o a b, σ, μ => (ev Φ a σ μ).bnd fun x μ => (ev Φ b σ μ).bnd fun y μ => opt (cmpM o μ x y) μ
  | .chn a l, σ, μ => (ev Φ a σ μ).bnd fun x μ => evC Φ l x σ μ
  | .var i, σ, μ => (match σ[i]? with
    | some (some d) => opt (truth μ d) μ
    | _ => .no)
  | .call f as, σ, μ => (evs Φ as σ μ).bnd fun xs μ => (Φ.fn f xs μ).bnd fun x μ => opt (truth μ x) μ
  | .cst d, _, μ => opt (truth μ d) μ
  | .sub a i, σ, μ => (ev Φ a σ μ).bnd fun x μ => (ev Φ i σ μ).bnd fun y μ => (opt (subM μ x y) μ).bnd fun x μ => opt (truth μ x) μ
  | .gen g t it q e, σ, μ => ((evi Φ it σ μ).bnd fun p μ => genF g p.2 (turnM t σ (evq Φ q) (ev Φ e)) p.1 μ).bnd fun x μ => opt (truth μ x) μ
  | .blt b as, σ, μ => ((evs Φ as σ μ).bnd fun xs μ => opt (bltM b μ xs) μ).bnd fun x μ => opt (truth μ x) μ
  | .mth m o as, σ, μ => ((ev Φ o σ μ).bnd fun x μ => if recvM m μ x = true then (evs Φ as σ μ).bnd fun xs μ => opt (mthM m μ x xs) μ else .no).bnd fun x μ => opt (truth μ x) μ
  | _, _, _ => .no
def evC (Φ : Env) : Ch → D → Sl → Mu → R Bool
  | .last o b, x, σ, μ => (ev Φ b σ μ).bnd fun y μ => opt (cmpM o μ x y) μ
  | .more o b l, x, σ, μ => (ev Φ b σ μ).bnd fun y μ => (opt (cmpM o μ x y) μ).bnd fun t μ => if t = true then evC Φ l y σ μ else .ok false μ
def evs (Φ : Env) : Es → Sl → Mu → R (List D)
  | .nil, _, μ => .ok [] μ
  | .cons e r, σ, μ => (ev Φ e σ μ).bnd fun x μ => (evs Φ r σ μ).bnd fun xs μ => .ok (x :: xs) μ
/-- key, value, key, value .. -/
def evd (Φ : Env) : Es → Sl → Mu → List D → List D → R (List D × List D)
  | .nil, _, μ, ks, vs => .ok (ks, vs) μ
  | .cons k (.cons v r), σ, μ, ks, vs => (ev Φ k σ μ).bnd fun x μ => (ev Φ v σ μ).bnd fun y μ => if isKey x && ks.all isKey then evd Φ r σ μ (putKs x ks) (putV x y ks vs) else .no
  | .cons _ .nil, _, _, _, _ => .no
def evo (Φ : Env) : Eo → Sl → Mu → R (Option Int)
  | .none, _, μ => .ok none μ
  | .some e, σ, μ => (ev Φ e σ μ).bnd fun x μ => (match x with
    | .int i => .ok (some i) μ
    | _ => .no)
def evq (Φ : Env) : Eo → Sl → Mu → R Bool
  | .none, _, μ => .ok true μ
  | .some e, σ, μ => evT Φ e σ μ
def evi (Φ : Env) : It → Sl → Mu → R (List D × Wt)
  | .seq e, σ, μ => (ev Φ e σ μ).bnd fun x μ => opt (seqIt μ x) μ
  | .rng as, σ, μ => (evs Φ as σ μ).bnd fun xs μ => opt ((rngM xs).map fun l => (l, [])) μ
  | .enm e, σ, μ => (ev Φ e σ μ).bnd fun x μ => opt ((seqIt μ x).map fun p => (enumL 0 p.1, p.2)) μ
  | .zip a b, σ, μ => (ev Φ a σ μ).bnd fun x μ => (ev Φ b σ μ).bnd fun y μ => opt (zipIt μ x y) μ
  | .itm e, σ, μ => (ev Φ e σ μ).bnd fun _ _ => .no
end

/-! ### statements -/
inductive Fl where
  | nx (σ : Sl) | ret (d : D) | brk (σ : Sl) | ct (σ : Sl)
mutual
inductive S where
  | asg (t : Tg) (e : E) | par (ts : List Nat) (es : Es) | aug (i : Nat) (o : BO) (e : E) | put (o i e : E) | cut (o lo hi e : E) | augp (o i : E) (b : BO) (e : E) | app (o e : E)
  | drop (e : E) | ret (e : E) | retn | ite (c : E) (a b : Ss) | for (t : Tg) (it : It) (b : Ss) | whl (c : E) (b : Ss) | brk | ct | pass | rai (c : Nat)
  | tryr (e : E) (h : Nat) (b : Ss)
inductive Ss where
  | nil | cons (s : S) (r : Ss)
end
def seqF (r : R Fl) (f : Sl → Mu → R Fl) : R Fl := r.bnd fun fl μ => match fl with
  | .nx σ => f σ μ
  | fl => .ok fl μ
/-- a for over the items; d: what follows -/
def forF (ws : Wt) (b : D → Sl → Mu → R Fl) : List D → Sl → Mu → R Fl
  | [], σ, μ => if wOk ws μ = true then .ok (.nx σ) μ else .no
  | x :: xs, σ, μ => if wOk ws μ = true then (b x σ μ).bnd fun fl μ => (match fl with
    | .nx σ => forF ws b xs σ μ
    | .ct σ => forF ws b xs σ μ
    | .brk σ => .ok (.nx σ) μ
    | .ret d => .ok (.ret d) μ) else .no
/-- a for's turn -/
def turnF (t : Tg) (b : Sl → Mu → R Fl) (x : D) (σ : Sl) (μ : Mu) : R Fl := match bindT μ t x σ with
  | none => .no
  | some σ => b σ μ
def whlF (c : Sl → Mu → R Bool) (b : Sl → Mu → R Fl) : Nat → Sl → Mu → R Fl
  | 0, _, _ => .no
  | n + 1, σ, μ => (c σ μ).bnd fun t μ => if t = true then (b σ μ).bnd fun fl μ => (match fl with
      | .nx σ => whlF c b n σ μ
      | .ct σ => whlF c b n σ μ
      | .brk σ => .ok (.nx σ) μ
      | .ret d => .ok (.ret d) μ) else .ok (.nx σ) μ
def FUEL : Nat := 1000000000
/-- the cell i holds a list: changed by f -/
def atCell (μ : Mu) (o : D) (f : List D → Option (List D)) : Option Mu := match o with
  | .ref i => (match μ[i]? with
    | some (.lst xs) => (f xs).map fun ys => μ.set i (.lst ys)
    | _ => none)
  | _ => none
def isCell (μ : Mu) (o : D) : Bool := match o with
  | .ref i => (match μ[i]? with
    | some (.lst _) => true
    | _ => false)
  | _ => false
def setM (μ : Mu) (o i v : D) : Option Mu := match o, i with
  | .ref c, i => (match μ[c]? with
    | some (.lst xs) => (match i with
      | .int i => (ixD xs.length i).map fun j => μ.set c (.lst (xs.set j v))
      | _ => none)
    | some (.dic ks vs) => if isKey i && decide (ks.length < LINE) then some (μ.set c (.dic (putKs i ks) (putV i v ks vs))) else none
    | _ => none)
  | _, _ => none
def sameCell : D → D → Bool
  | .ref i, .ref j => i == j
  | _, _ => false
/-- o[lo:hi] = ys, places within, lo ≤ hi -/
def cutM (μ : Mu) (o : D) (lo hi : Int) (v : D) : Option Mu := if sameCell o v = true then none else (match lstOf μ v with
  | some ys => (match o with
    | .ref c => (match μ[c]? with
      | some (.lst xs) => if decide (0 ≤ lo) && decide (lo ≤ hi) && decide (hi ≤ xs.length) && decide (xs.length + ys.length ≤ LINE) then some (μ.set c (.lst (xs.take lo.toNat ++ ys ++ xs.drop hi.toNat))) else none
      | _ => none)
    | _ => none)
  | none => none)
/-- x op= y at a name: a cell's list is changed where it stands -/
def augM (o : BO) (μ : Mu) (x y : D) : Option (D × Mu) := match o with
  | .add => (match x with
    | .ref i => (match μ[i]?, lstOf μ y with
      | some (.lst xs), some ys => if xs.length + ys.length ≤ LINE then some (.ref i, μ.set i (.lst (xs ++ ys))) else none
      | _, _ => none)
    | .int i => (match y with
      | .int j => some (.int (i + j), μ)
      | _ => none)
    | .str a => (match y with
      | .str b => if a.length + b.length ≤ LINE then some (.str (a ++ b), μ) else none
      | _ => none)
    | _ => none)
  | .sub => (match x, y with
    | .int i, .int j => some (.int (i - j), μ)
    | _, _ => none)
  | _ => none
def setSl : List Nat → List D → Sl → Option Sl
  | [], [], σ => some σ
  | i :: l, x :: xs, σ => if i < σ.length then setSl l xs (σ.set i (some x)) else none
  | _, _, _ => none
mutual
def rn (Φ : Env) : S → Sl → Mu → R Fl
  | .asg t e, σ, μ => (ev Φ e σ μ).bnd fun x μ => (opt (bindT μ t x σ) μ).bnd fun σ μ => .ok (.nx σ) μ
  | .par ts es, σ, μ => (evs Φ es σ μ).bnd fun xs μ => (opt (setSl ts xs σ) μ).bnd fun σ μ => .ok (.nx σ) μ
  | .aug i o e, σ, μ => (match σ[i]? with
    | some (some x) => (ev Φ e σ μ).bnd fun y μ => (match augM o μ x y with
      | some (z, μ) => .ok (.nx (σ.set i (some z))) μ
      | none => .no)
    | _ => .no)
  | .put o i e, σ, μ => (ev Φ e σ μ).bnd fun v μ => (ev Φ o σ μ).bnd fun x μ => (ev Φ i σ μ).bnd fun y μ => (match setM μ x y v with
    | some μ => .ok (.nx σ) μ
    | none => .no)
  | .cut o lo hi e, σ, μ => (ev Φ e σ μ).bnd fun v μ => (ev Φ o σ μ).bnd fun x μ => (ev Φ lo σ μ).bnd fun l μ => (ev Φ hi σ μ).bnd fun h μ => (match l, h with
    | .int l, .int h => (match cutM μ x l h v with
      | some μ => .ok (.nx σ) μ
      | none => .no)
    | _, _ => .no)
  | .augp o i b e, σ, μ => (ev Φ o σ μ).bnd fun x μ => (ev Φ i σ μ).bnd fun y μ => (opt (subM μ x y) μ).bnd fun z μ => (ev Φ e σ μ).bnd fun v μ => (match augM b μ z v with
    | some (w, μ) => (match setM μ x y w with
      | some μ => .ok (.nx σ) μ
      | none => .no)
    | none => .no)
  | .app o e, σ, μ => (ev Φ o σ μ).bnd fun x μ => if isCell μ x = false then .no else (ev Φ e σ μ).bnd fun v μ => (match atCell μ x (fun xs => if xs.length < LINE then some (xs ++ [v]) else none) with
    | some μ => .ok (.nx σ) μ
    | none => .no)
  | .drop e, σ, μ => (ev Φ e σ μ).bnd fun _ μ => .ok (.nx σ) μ
  | .ret e, σ, μ => (ev Φ e σ μ).bnd fun x μ => .ok (.ret x) μ
  | .retn, _, μ => .ok (.ret .non) μ
  | .ite c a b, σ, μ => (evT Φ c σ μ).bnd fun t μ => if t = true then rns Φ a σ μ else rns Φ b σ μ
  | .for t it b, σ, μ => (evi Φ it σ μ).bnd fun p μ => forF p.2 (turnF t (rns Φ b)) p.1 σ μ
  | .whl c b, σ, μ => whlF (evT Φ c) (rns Φ b) FUEL σ μ
  | .brk, σ, μ => .ok (.brk σ) μ
  | .ct, σ, μ => .ok (.ct σ) μ
  | .pass, σ, μ => .ok (.nx σ) μ
  | .rai c, _, μ => .exc c μ
  | .tryr e h b, σ, μ => (match ev Φ e σ μ with
    | .ok x μ => .ok (.ret x) μ
    | .exc c μ => if c = h then rns Φ b σ μ else .exc c μ
    | .no => .no)
def rns (Φ : Env) : Ss → Sl → Mu → R Fl
  | .nil, σ, μ => .ok (.nx σ) μ
  | .cons s r, σ, μ => seqF (rn Φ s σ μ) (rns Φ r)
end
mutual
/-- no cell from n on -/
def low (n : Nat) : D → Bool
  | .ref i => decide (i < n)
  | .tup _ xs | .lst xs => lows n xs
  | .dic ks vs => lows n ks && lows n vs
  | .ins _ _ vs => lows n vs
  | _ => true
def lows (n : Nat) : List D → Bool
  | [] => true
  | x :: xs => low n x && lows n xs
end
/-- a call's end: cells from n on are forgotten, the answer's own one is a tree from now on -/
def done (n : Nat) (d : D) (μ : Mu) : R D :=
  if lows n (μ.take n) = true then
    (match d with
    | .ref i => if i < n then .ok d (μ.take n) else (match μ[i]? with
      | some (.lst xs) => if lows n xs = true then .ok (.lst xs) (μ.take n) else .no
      | some (.dic ks vs) => if (lows n ks && lows n vs) = true then .ok (.dic ks vs) (μ.take n) else .no
      | _ => .no)
    | d => if low n d = true then .ok d (μ.take n) else .no)
  else .no
/-- a def: parameters in the first slots, N slots in all; keep: its cells outlive it -/
def fun_ (Φ : Env) (N : Nat) (keep : Bool) (b : Ss) (as : List D) (μ : Mu) : R D :=
  match rns Φ b (as.map some ++ List.replicate (N - as.length) none) μ with
  | .ok (.ret d) μ' => if keep then .ok d μ' else done μ.length d μ'
  | .ok (.nx _) μ' => if keep then .ok .non μ' else done μ.length .non μ'
  | .ok _ _ => .no
  | .exc c μ' => if keep then .exc c μ' else if lows μ.length (μ'.take μ.length) = true then .exc c (μ'.take μ.length) else .no
  | .no => .no
def eL : List E → Es
  | [] => .nil
  | e :: r => .cons e (eL r)
def sL : List S → Ss
  | [] => .nil
  | s :: r => .cons s (sL r)
end Mi
set_option Elab.async false
set_option linter.all false
set_option maxRecDepth 100000
/-! Mr: how a tree and its cells stand in the layer's abstract heap. -/
namespace Mi
open PySem PySem.Spec PyProof.Rows L2
abbrev mkS (s : T) : PySem.Str := ⟨s.toArray⟩
structure Zx where
  K : PySem.W.Frag
  /-- the tables of the code objects -/
  tb : List Addr
  /-- lists that are being made: no part of any tree -/
  ex : List Addr
  /-- the objects of a lambda, and of its code -/
  fo : Nat → Addr → Addr → HO
  co : Nat → Addr → HO
  /-- objects of the program's top that stay -/
  gl : List (Addr × HO)
  /-- tables of defs that make lambdas: the name of their code objects -/
  tq : Addr → Option Str
def keyD : Key → D
  | .inl i => .int i
  | .inr x => .str x.cps.toList
def KT (K : PySem.W.Frag) (a : Addr) (xs : List V) : Prop :=
  ∃ (o : Obj) (its : Array Value) (n : Nat), K.lookup a = some o ∧ o.cls = .type "tuple" ∧ o.data = .seq its n ∧ its.size ≤ sizeLine ∧ Vals xs its.toList
def KL (K : PySem.W.Frag) (a : Addr) (xs : List V) : Prop :=
  ∃ (o : Obj) (its : Array Value) (n : Nat), K.lookup a = some o ∧ o.cls = .type "list" ∧ o.dict = none ∧ o.data = .seq its n ∧ its.size ≤ sizeLine ∧ Vals xs its.toList
/-- an object that is no cell and is not being made -/
def Out (Z : Zx) (ρ : List Addr) (a : Addr) : Prop := a ∉ ρ ∧ a ∉ Z.ex
/-- a known object without a dict -/
def DN (Z : Zx) (ρ : List Addr) (H : Hp) (a : Addr) : Prop := (∃ o u, H a = some (.frz o u) ∧ o.dict = none ∧ Out Z ρ a) ∨ ∃ o, Z.K.lookup a = some o ∧ o.dict = none
/-- the heap has grown; the cells at ρ may have changed, ρ' has new ones -/
structure Ext (ρ : List Addr) (H : Hp) (ρ' : List Addr) (H' : Hp) : Prop where
  pre : ρ <+: ρ'
  new : ∀ a ∈ ρ', a ∉ ρ → H a = none
  keep : ∀ a o, H a = some o → a ∉ ρ → (∀ ps, o ≠ .tbl ps) → H' a = some o
  live : ∀ a o, H a = some o → ∃ o', H' a = some o'
mutual
inductive Rep (Z : Zx) (ρ : List Addr) (H : Hp) : D → V → Prop where
  | non : Rep Z ρ H .non .non
  | bl (b : Bool) : Rep Z ρ H (.bl b) (.bl b)
  | int (i : Int) : Rep Z ρ H (.int i) (.int i)
  | str (s : T) : Rep Z ρ H (.str s) (.str (mkS s))
  | tup {k : Bool} {a : Addr} {xs : List V} {ds : List D} : ((Rd H a (.tup xs) ∧ Out Z ρ a) ∨ KT Z.K a xs) → (k = true → DN Z ρ H a) → Reps Z ρ H ds xs → Rep Z ρ H (.tup k ds) (.ref a)
  | lst {a : Addr} {xs : List V} {ds : List D} : H a = some (.lst xs) → Out Z ρ a → Reps Z ρ H ds xs → Rep Z ρ H (.lst ds) (.ref a)
  | scr {a : Addr} {ns : List Int} : ((Rd H a (.lst (ns.map V.int)) ∧ Out Z ρ a) ∨ KL Z.K a (ns.map V.int)) → Rep Z ρ H (.scr ns) (.ref a)
  | dic {a : Addr} {kvs : List (Key × V)} {vs : List D} : Rd H a (.dK kvs) → Out Z ρ a → Reps Z ρ H vs (kvs.map (·.2)) → Rep Z ρ H (.dic (kvs.map fun p => keyD p.1) vs) (.ref a)
  | ref {i : Nat} {a : Addr} : ρ[i]? = some a → Rep Z ρ H (.ref i) (.ref a)
  | clo {k : Nat} {a c : Addr} : H a = some (Z.fo k a c) → H c = some (Z.co k c) → Out Z ρ a → Out Z ρ c → (∀ ps, Z.fo k a c ≠ .tbl ps) → (∀ ps, Z.co k c ≠ .tbl ps) → Rep Z ρ H (.clo k) (.ref a)
inductive Reps (Z : Zx) (ρ : List Addr) (H : Hp) : List D → List V → Prop where
  | nil : Reps Z ρ H [] []
  | cons {d : D} {ds : List D} {v : V} {vs : List V} : Rep Z ρ H d v → Reps Z ρ H ds vs → Reps Z ρ H (d :: ds) (v :: vs)
end
/-- what stands in a cell -/
def CellOk (Z : Zx) (ρ : List Addr) (H : Hp) (a : Addr) : D → Prop
  | .lst ds => ∃ xs, H a = some (.lst xs) ∧ Reps Z ρ H ds xs
  | .dic ks vs => ∃ kvs : List (Key × V), H a = some (.dK kvs) ∧ ks = kvs.map (fun p => keyD p.1) ∧ Reps Z ρ H vs (kvs.map (·.2))
  | _ => True
/-- the table at P: each code object that it tells bears the name q -/
def TabQ (Z : Zx) (ρ : List Addr) (H : Hp) (P : Addr) (q : Str) : Prop := ∀ ps : Array Value, H P = some (.tbl ps) → ∀ (pos : Pos) (cv : Value), codeAmong pos ps.toList = some cv → ∃ c, cv = .ref c ∧ H c = some (LamX.CodeO c q) ∧ Out Z ρ c
structure MuOk (Z : Zx) (ρ : List Addr) (H : Hp) (μ : Mu) : Prop where
  nd : ρ.Nodup
  len : ρ.length = μ.length
  live : ∀ a ∈ ρ, ∃ o, H a = some o
  cell : ∀ (i : Nat) (a : Addr) (d : D), ρ[i]? = some a → μ[i]? = some d → CellOk Z ρ H a d
  tb : ∀ P ∈ Z.tb, GxR.TabG H P
  tbn : ∀ P ∈ Z.tb, P ∉ ρ
  exl : ∀ a ∈ Z.ex, ∃ o, H a = some o
  exn : ∀ a ∈ Z.ex, a ∉ ρ
  gl : ∀ p ∈ Z.gl, H p.1 = some p.2 ∧ Out Z ρ p.1 ∧ ∀ ps, p.2 ≠ .tbl ps
  tq : ∀ P ∈ Z.tb, ∀ q, Z.tq P = some q → TabQ Z ρ H P q
structure SlOk (Z : Zx) (ρ : List Addr) (H : Hp) (σ' : Sl) (σ : L2.St) : Prop where
  len : σ'.length = σ.length
  at_ : ∀ (i : Nat) (d : D), σ'[i]? = some (some d) → ∃ v : V, σ[i]? = some (some v) ∧ Rep Z ρ H d v

/-! ### growing -/
section
variable {Z : Zx} {ρ ρ' ρ'' : List Addr} {H H' H'' : Hp} {μ : Mu} {d : D} {v : V}
theorem Ext.refl (ρ : List Addr) (H : Hp) : Ext ρ H ρ H := ⟨List.prefix_refl _, fun _ h n => absurd h n, fun _ _ e _ _ => e, fun _ o e => ⟨o, e⟩⟩
theorem Ext.mem (x : Ext ρ H ρ' H') {a : Addr} (h : a ∈ ρ) : a ∈ ρ' := x.pre.subset h
theorem Ext.out (x : Ext ρ H ρ' H') {a : Addr} {o : HO} (e : H a = some o) (n : a ∉ ρ) : a ∉ ρ' := fun z => by
  have := x.new a z n
  rw [e] at this
  cases this
theorem Ext.trans (x : Ext ρ H ρ' H') (y : Ext ρ' H' ρ'' H'') : Ext ρ H ρ'' H'' where
  pre := x.pre.trans y.pre
  new := fun a h n => by
    by_cases m : a ∈ ρ'
    · exact x.new a m n
    · cases e : H a with
      | none => rfl
      | some o =>
        obtain ⟨o', e'⟩ := x.live a o e
        have := y.new a h m
        rw [e'] at this
        cases this
  keep := fun a o e n t => y.keep a o (x.keep a o e n t) (x.out e n) t
  live := fun a o e => let ⟨o', e'⟩ := x.live a o e; y.live a o' e'
theorem Ext.outZ (x : Ext ρ H ρ' H') {a : Addr} {o : HO} (e : H a = some o) (n : Out Z ρ a) : Out Z ρ' a := ⟨x.out e n.1, n.2⟩
theorem Ext.rd (x : Ext ρ H ρ' H') {a : Addr} {u : HO} (r : Rd H a u) (n : Out Z ρ a) (t : ∀ ps, u ≠ .tbl ps) : Rd H' a u ∧ Out Z ρ' a := by
  rcases r with r | ⟨o, r⟩
  · exact ⟨.inl (x.keep a u r n.1 t), x.outZ r n⟩
  · exact ⟨.inr ⟨o, x.keep a _ r n.1 (fun ps z => by cases z)⟩, x.outZ r n⟩
mutual
theorem Rep.ext (x : Ext ρ H ρ' H') : ∀ {d : D} {v : V}, Rep Z ρ H d v → Rep Z ρ' H' d v
  | _, _, .non => .non
  | _, _, .bl b => .bl b
  | _, _, .int i => .int i
  | _, _, .str s => .str s
  | _, _, .tup h n r => .tup (h.imp (fun q => x.rd q.1 q.2 (fun ps z => by cases z)) id) (fun k => (n k).imp (fun ⟨o, u, e, q, m⟩ => ⟨o, u, x.keep _ _ e m.1 (fun ps z => by cases z), q, x.outZ e m⟩) id) (Reps.ext x r)
  | _, _, .lst h n r => .lst (x.keep _ _ h n.1 (fun ps z => by cases z)) (x.outZ h n) (Reps.ext x r)
  | _, _, .scr h => .scr (h.imp (fun q => x.rd q.1 q.2 (fun ps z => by cases z)) id)
  | _, _, .dic h n r => let q := x.rd h n (fun ps z => by cases z); .dic q.1 q.2 (Reps.ext x r)
  | _, _, .clo h1 h2 n1 n2 t1 t2 => .clo (x.keep _ _ h1 n1.1 t1) (x.keep _ _ h2 n2.1 t2) (x.outZ h1 n1) (x.outZ h2 n2) t1 t2
  | _, _, .ref h => .ref (by
      obtain ⟨t, e⟩ := x.pre
      subst e
      rw [List.getElem?_append_left (List.getElem?_eq_some_iff.mp h).1]
      exact h)
theorem Reps.ext (x : Ext ρ H ρ' H') : ∀ {ds : List D} {vs : List V}, Reps Z ρ H ds vs → Reps Z ρ' H' ds vs
  | _, _, .nil => .nil
  | _, _, .cons a b => .cons (Rep.ext x a) (Reps.ext x b)
end
theorem SlOk.ext {σ' : Sl} {σ : L2.St} (s : SlOk Z ρ H σ' σ) (x : Ext ρ H ρ' H') : SlOk Z ρ' H' σ' σ :=
  ⟨s.len, fun i d e => let ⟨v, h, r⟩ := s.at_ i d e; ⟨v, h, r.ext x⟩⟩
theorem SlOk.set {σ' : Sl} {σ : L2.St} (s : SlOk Z ρ H σ' σ) {i : Nat} (r : Rep Z ρ H d v) : SlOk Z ρ H (σ'.set i (some d)) (σ.set i (some v)) := by
  refine ⟨by simp [s.len], fun j e h => ?_⟩
  by_cases hij : i = j
  · subst hij
    by_cases hl : i < σ'.length
    · rw [List.getElem?_set_self hl] at h
      cases h
      exact ⟨v, List.getElem?_set_self (by rw [← s.len]; exact hl), r⟩
    · rw [List.getElem?_eq_none (by simpa using hl)] at h
      cases h
  · rw [List.getElem?_set_ne hij] at h
    obtain ⟨w, h1, h2⟩ := s.at_ j e h
    exact ⟨w, by rw [List.getElem?_set_ne hij]; exact h1, h2⟩
theorem Reps.length : ∀ {ds : List D} {vs : List V}, Reps Z ρ H ds vs → ds.length = vs.length
  | _, _, .nil => rfl
  | _, _, .cons _ r => congrArg (· + 1) (Reps.length r)
theorem Reps.get : ∀ {ds : List D} {vs : List V} {i : Nat} {d : D}, Reps Z ρ H ds vs → ds[i]? = some d → ∃ v, vs[i]? = some v ∧ Rep Z ρ H d v
  | _, _, _, _, .nil, e => by simp at e
  | _, _, 0, _, .cons a _, e => by simp at e; subst e; exact ⟨_, rfl, a⟩
  | _, _, i + 1, d, .cons _ r, e => by
    obtain ⟨v, h1, h2⟩ := Reps.get (i := i) (d := d) r (by simpa using e)
    exact ⟨v, by simpa using h1, h2⟩
theorem Reps.get' : ∀ {ds : List D} {vs : List V} {i : Nat} {v : V}, Reps Z ρ H ds vs → vs[i]? = some v → ∃ d, ds[i]? = some d ∧ Rep Z ρ H d v
  | _, _, _, _, .nil, e => by simp at e
  | _, _, 0, _, .cons a _, e => by simp at e; subst e; exact ⟨_, rfl, a⟩
  | _, _, i + 1, v, .cons _ r, e => by
    obtain ⟨d, h1, h2⟩ := Reps.get' (i := i) (v := v) r (by simpa using e)
    exact ⟨d, by simpa using h1, h2⟩
theorem Reps.append : ∀ {ds es : List D} {vs ws : List V}, Reps Z ρ H ds vs → Reps Z ρ H es ws → Reps Z ρ H (ds ++ es) (vs ++ ws)
  | _, _, _, _, .nil, s => s
  | _, _, _, _, .cons a r, s => .cons a (Reps.append r s)
theorem Reps.take : ∀ {ds : List D} {vs : List V} (n : Nat), Reps Z ρ H ds vs → Reps Z ρ H (ds.take n) (vs.take n)
  | _, _, 0, _ => by simp; exact .nil
  | _, _, _ + 1, .nil => .nil
  | _, _, n + 1, .cons a r => .cons a (Reps.take n r)
theorem Reps.drop : ∀ {ds : List D} {vs : List V} (n : Nat), Reps Z ρ H ds vs → Reps Z ρ H (ds.drop n) (vs.drop n)
  | _, _, 0, r => r
  | _, _, _ + 1, .nil => .nil
  | _, _, n + 1, .cons _ r => Reps.drop n r
theorem Reps.set {d : D} {v : V} (a : Rep Z ρ H d v) : ∀ {ds : List D} {vs : List V} (n : Nat), Reps Z ρ H ds vs → Reps Z ρ H (ds.set n d) (vs.set n v)
  | _, _, _, .nil => .nil
  | _, _, 0, .cons _ r => .cons a r
  | _, _, n + 1, .cons b r => .cons b (Reps.set a n r)
theorem Reps.reverse {ds : List D} {vs : List V} (r : Reps Z ρ H ds vs) : Reps Z ρ H ds.reverse vs.reverse := by
  induction ds generalizing vs with
  | nil => cases r; exact .nil
  | cons d ds ih =>
    cases r with
    | cons a r => rw [List.reverse_cons, List.reverse_cons]; exact (ih r).append (.cons a .nil)
theorem Reps.rep {ds : List D} {vs : List V} (r : Reps Z ρ H ds vs) (n : Nat) : Reps Z ρ H (repL n ds) (List.replicate n vs).flatten := by
  induction n with
  | zero => exact .nil
  | succ n ih =>
    unfold repL at ih ⊢
    rw [List.replicate_succ, List.flatten_cons, List.replicate_succ, List.flatten_cons]
    exact r.append ih
theorem CellOk.ext {a : Addr} (x : Ext ρ H ρ' H') (h : CellOk Z ρ H a d) (e : H' a = H a) : CellOk Z ρ' H' a d := by
  cases d with
  | lst ds => obtain ⟨xs, h1, h2⟩ := h; exact ⟨xs, by rw [e]; exact h1, h2.ext x⟩
  | dic ks vs => obtain ⟨kvs, h1, h2, h3⟩ := h; exact ⟨kvs, by rw [e]; exact h1, h2, h3.ext x⟩
  | _ => trivial
theorem TabG.ne {H' : Hp} {P : Addr} (t : GxR.TabG H P) (e : H' P = H P) : GxR.TabG H' P := by
  obtain ⟨ps, h1, h2⟩ := t
  exact ⟨ps, by rw [e]; exact h1, h2⟩
theorem TabQ.ext {P : Addr} {q : Str} (t : TabQ Z ρ H P q) (x : Ext ρ H ρ' H') (e : H' P = H P) : TabQ Z ρ' H' P q := fun ps h pos cv hc => by
  rw [e] at h
  obtain ⟨c, e1, e2, n⟩ := t ps h pos cv hc
  exact ⟨c, e1, x.keep c _ e2 n.1 LamX.codeO_ne, x.outZ e2 n⟩
/-- a new object that is no cell -/
theorem Ext.new1 {p : Addr} {o : HO} (ρ : List Addr) (h : H p = none) : Ext ρ H ρ (upd H p o) where
  pre := List.prefix_refl _
  new := fun _ h n => absurd h n
  keep := fun a u e _ _ => by rw [upd_ne (ne_of_none e h)]; exact e
  live := fun a u e => ⟨u, by rw [upd_ne (ne_of_none e h)]; exact e⟩
theorem MuOk.new1 {p : Addr} {o : HO} (r : MuOk Z ρ H μ) (h : H p = none) : MuOk Z ρ (upd H p o) μ ∧ Out Z ρ p := by
  have hx : p ∉ Z.ex := fun z => by
    obtain ⟨o, e⟩ := r.exl p z
    rw [h] at e
    cases e
  have hp : p ∉ ρ := fun z => by
    obtain ⟨o, e⟩ := r.live p z
    rw [h] at e
    cases e
  refine ⟨⟨r.nd, r.len, fun a ha => ?_, fun i a d h1 h2 => ?_, fun P hP => ?_, r.tbn, fun a ha => ?_, r.exn, fun p hp => ?_, fun P hP q hq => (r.tq P hP q hq).ext (Ext.new1 ρ h) (let ⟨ps, e, _⟩ := r.tb P hP; upd_ne (ne_of_none e h))⟩, hp, hx⟩
  · obtain ⟨u, e⟩ := r.live a ha
    exact ⟨u, by rw [upd_ne (ne_of_none e h)]; exact e⟩
  · refine (r.cell i a d h1 h2).ext (Ext.new1 ρ h) ?_
    have ha : a ∈ ρ := List.mem_of_getElem? h1
    exact upd_ne fun z => hp (z ▸ ha)
  · obtain ⟨ps, e, t⟩ := r.tb P hP
    exact ⟨ps, by rw [upd_ne (ne_of_none e h)]; exact e, t⟩
  · obtain ⟨u, e⟩ := r.exl a ha
    exact ⟨u, by rw [upd_ne (ne_of_none e h)]; exact e⟩
  · obtain ⟨e, n, t⟩ := r.gl p hp
    exact ⟨by rw [upd_ne (ne_of_none e h)]; exact e, n, t⟩
/-- a new cell -/
theorem Ext.newC {p : Addr} {o : HO} (ρ : List Addr) (h : H p = none) : Ext ρ H (ρ ++ [p]) (upd H p o) where
  pre := List.prefix_append _ _
  new := fun a h1 n => by
    rcases List.mem_append.mp h1 with z | z
    · exact absurd z n
    · simp at z; rw [z]; exact h
  keep := fun a u e _ _ => by rw [upd_ne (ne_of_none e h)]; exact e
  live := fun a u e => ⟨u, by rw [upd_ne (ne_of_none e h)]; exact e⟩
theorem MuOk.newC {p : Addr} {o : HO} {d : D} (r : MuOk Z ρ H μ) (h : H p = none) (c : CellOk Z (ρ ++ [p]) (upd H p o) p d) : MuOk Z (ρ ++ [p]) (upd H p o) (μ ++ [d]) := by
  obtain ⟨r1, hp⟩ := r.new1 (o := o) h
  have x := Ext.newC (o := o) ρ h
  refine ⟨?_, by simp [r.len], fun a ha => ?_, fun i a e h1 h2 => ?_, r1.tb, fun P hP hm => ?_, r1.exl, fun a ha hm => ?_, fun p hp => ?_, fun P hP q hq => (r.tq P hP q hq).ext x (let ⟨ps, e, _⟩ := r.tb P hP; upd_ne (ne_of_none e h))⟩
  · exact List.nodup_append.mpr ⟨r.nd, by simp, fun a ha b hb e => hp.1 (by simp at hb; rw [← hb, ← e]; exact ha)⟩
  · rcases List.mem_append.mp ha with z | z
    · exact r1.live a z
    · simp at z; exact ⟨o, by rw [z, upd_same]⟩
  · by_cases hi : i < ρ.length
    · rw [List.getElem?_append_left hi] at h1
      rw [List.getElem?_append_left (by rw [← r.len]; exact hi)] at h2
      exact (r.cell i a e h1 h2).ext x (upd_ne fun z => hp.1 (z ▸ List.mem_of_getElem? h1))
    · have hi' : i = ρ.length := by
        have := (List.getElem?_eq_some_iff.mp h1).1
        simp at this
        omega
      subst hi'
      rw [List.getElem?_append_right (Nat.le_refl _)] at h1
      rw [r.len, List.getElem?_append_right (Nat.le_refl _)] at h2
      simp at h1 h2
      rw [← h1, ← h2]
      exact c
  · rcases List.mem_append.mp hm with z | z
    · exact r.tbn P hP z
    · simp at z
      obtain ⟨ps, e, _⟩ := r.tb P hP
      rw [z, h] at e
      cases e
  · rcases List.mem_append.mp hm with z | z
    · exact r.exn a ha z
    · simp at z
      exact hp.2 (z ▸ ha)
  · obtain ⟨e, n, t⟩ := r.gl p hp
    exact ⟨(r1.gl p hp).1, x.outZ e n, t⟩
/-- a cell is written -/
theorem Ext.write {a : Addr} {o : HO} (ha : a ∈ ρ) : Ext ρ H ρ (upd H a o) where
  pre := List.prefix_refl _
  new := fun _ h n => absurd h n
  keep := fun b u e n _ => by rw [upd_ne (fun z => n (by rw [z]; exact ha))]; exact e
  live := fun b u e => by
    by_cases z : b = a
    · exact ⟨o, by rw [z, upd_same]⟩
    · exact ⟨u, by rw [upd_ne z]; exact e⟩
theorem MuOk.write {a : Addr} {o : HO} {i : Nat} {d : D} (r : MuOk Z ρ H μ) (hi : ρ[i]? = some a) (c : CellOk Z ρ (upd H a o) a d) : MuOk Z ρ (upd H a o) (μ.set i d) := by
  have ha : a ∈ ρ := List.mem_of_getElem? hi
  have x : Ext ρ H ρ (upd H a o) := Ext.write ha
  refine ⟨r.nd, by simp [r.len], fun b hb => ?_, fun j b e h1 h2 => ?_, fun P hP => ?_, r.tbn, fun b hb => ?_, r.exn, fun p hp => ?_, fun P hP q hq => (r.tq P hP q hq).ext x (upd_ne fun z => r.tbn P hP (z ▸ ha))⟩
  · obtain ⟨u, e⟩ := r.live b hb
    exact x.live b u e
  · by_cases hij : i = j
    · subst hij
      rw [hi] at h1
      cases h1
      have hl : i < μ.length := by rw [← r.len]; exact (List.getElem?_eq_some_iff.mp hi).1
      rw [List.getElem?_set_self hl] at h2
      cases h2
      exact c
    · rw [List.getElem?_set_ne hij] at h2
      refine (r.cell j b e h1 h2).ext x (upd_ne fun z => hij ?_)
      subst z
      obtain ⟨l1, e1⟩ := List.getElem?_eq_some_iff.mp hi
      obtain ⟨l2, e2⟩ := List.getElem?_eq_some_iff.mp h1
      exact (List.getElem_inj r.nd).mp (e1.trans e2.symm)
  · exact TabG.ne (r.tb P hP) (upd_ne fun z => r.tbn P hP (z ▸ ha))
  · obtain ⟨u, e⟩ := r.exl b hb
    exact x.live b u e
  · obtain ⟨e, n, t⟩ := r.gl p hp
    exact ⟨x.keep _ _ e n.1 t, n, t⟩
/-- a table has grown -/
theorem Ext.tabbed {P : Addr} {ps : Array Value} (hP : H P = some (.tbl ps)) (t : GxR.Tabbed P H H') : Ext ρ H ρ H' where
  pre := List.prefix_refl _
  new := fun _ h n => absurd h n
  keep := fun a u e n q => by
    rw [t.2 a (fun z => by rw [z, hP] at e; exact q ps (Option.some.inj e).symm)]
    exact e
  live := fun a u e => by
    by_cases z : a = P
    · obtain ⟨ps', h, _⟩ := t.1
      exact ⟨_, by rw [z]; exact h⟩
    · exact ⟨u, by rw [t.2 a z]; exact e⟩
theorem MuOk.tabbed {P : Addr} (r : MuOk Z ρ H μ) (hP : P ∈ Z.tb) (hq0 : Z.tq P = none) (t : GxR.Tabbed P H H') : Ext ρ H ρ H' ∧ MuOk Z ρ H' μ := by
  obtain ⟨ps, hps, _⟩ := r.tb P hP
  have x : Ext ρ H ρ H' := Ext.tabbed hps t
  refine ⟨x, r.nd, r.len, fun a ha => ?_, fun i a d h1 h2 => ?_, fun Q hQ => ?_, r.tbn, fun a ha => ?_, r.exn, fun p hp => ?_, fun Q hQ q hq => (r.tq Q hQ q hq).ext x (t.2 Q fun z => by rw [z, hq0] at hq; cases hq)⟩
  · obtain ⟨u, e⟩ := r.live a ha
    exact x.live a u e
  · exact (r.cell i a d h1 h2).ext x (t.2 a fun z => r.tbn P hP (z ▸ List.mem_of_getElem? h1))
  · by_cases z : Q = P
    · rw [z]; exact t.1
    · exact TabG.ne (r.tb Q hQ) (t.2 Q z)
  · obtain ⟨u, e⟩ := r.exl a ha
    exact x.live a u e
  · obtain ⟨e, n, t⟩ := r.gl p hp
    exact ⟨x.keep _ _ e n.1 t, n, t⟩
/-! ### lists that are being made -/
def Zx.with (Z : Zx) (a : Addr) : Zx := { Z with ex := a :: Z.ex }
theorem Out.less {a b : Addr} (h : Out (Z.with b) ρ a) : Out Z ρ a := ⟨h.1, fun z => h.2 (List.mem_cons_of_mem _ z)⟩
theorem Out.more {a b : Addr} (h : Out Z ρ a) (n : a ≠ b) : Out (Z.with b) ρ a := ⟨h.1, fun z => (List.mem_cons.mp z).elim n h.2⟩
mutual
theorem Rep.less {b : Addr} : ∀ {d : D} {v : V}, Rep (Z.with b) ρ H d v → Rep Z ρ H d v
  | _, _, .non => .non
  | _, _, .bl b => .bl b
  | _, _, .int i => .int i
  | _, _, .str s => .str s
  | _, _, .tup h n r => .tup (h.imp (fun q => ⟨q.1, q.2.less⟩) id) (fun k => (n k).imp (fun ⟨o, u, e, q, m⟩ => ⟨o, u, e, q, m.less⟩) id) (Reps.less r)
  | _, _, .lst h n r => .lst h n.less (Reps.less r)
  | _, _, .scr h => .scr (h.imp (fun q => ⟨q.1, q.2.less⟩) id)
  | _, _, .dic h n r => .dic h n.less (Reps.less r)
  | _, _, .ref h => .ref h
  | _, _, .clo h1 h2 n1 n2 t1 t2 => .clo h1 h2 n1.less n2.less t1 t2
theorem Reps.less {b : Addr} : ∀ {ds : List D} {vs : List V}, Reps (Z.with b) ρ H ds vs → Reps Z ρ H ds vs
  | _, _, .nil => .nil
  | _, _, .cons a r => .cons (Rep.less a) (Reps.less r)
end
theorem rd_ne {a b : Addr} {u : HO} (h : H b = none) (r : Rd H a u) : a ≠ b := by
  rcases r with r | ⟨o, r⟩ <;> exact ne_of_none r h
mutual
/-- what stood ahead of a new object does not have it -/
theorem Rep.more {b : Addr} (hb : H b = none) : ∀ {d : D} {v : V}, Rep Z ρ H d v → Rep (Z.with b) ρ H d v
  | _, _, .non => .non
  | _, _, .bl b => .bl b
  | _, _, .int i => .int i
  | _, _, .str s => .str s
  | _, _, .tup h n r => .tup (h.imp (fun q => ⟨q.1, q.2.more (rd_ne hb q.1)⟩) id) (fun k => (n k).imp (fun ⟨o, u, e, q, m⟩ => ⟨o, u, e, q, m.more (ne_of_none e hb)⟩) id) (Reps.more hb r)
  | _, _, .lst h n r => .lst h (n.more (ne_of_none h hb)) (Reps.more hb r)
  | _, _, .scr h => .scr (h.imp (fun q => ⟨q.1, q.2.more (rd_ne hb q.1)⟩) id)
  | _, _, .dic h n r => .dic h (n.more (rd_ne hb h)) (Reps.more hb r)
  | _, _, .ref h => .ref h
  | _, _, .clo h1 h2 n1 n2 t1 t2 => .clo h1 h2 (n1.more (ne_of_none h1 hb)) (n2.more (ne_of_none h2 hb)) t1 t2
theorem Reps.more {b : Addr} (hb : H b = none) : ∀ {ds : List D} {vs : List V}, Reps Z ρ H ds vs → Reps (Z.with b) ρ H ds vs
  | _, _, .nil => .nil
  | _, _, .cons a r => .cons (Rep.more hb a) (Reps.more hb r)
end
mutual
/-- the list that is being made is written -/
theorem Rep.made {b : Addr} {o : HO} : ∀ {d : D} {v : V}, Rep (Z.with b) ρ H d v → Rep (Z.with b) ρ (upd H b o) d v
  | _, _, .non => .non
  | _, _, .bl b => .bl b
  | _, _, .int i => .int i
  | _, _, .str s => .str s
  | _, _, .tup h n r => .tup (h.imp (fun q => ⟨q.1.imp (fun e => by rw [upd_ne (fun z => q.2.2 (by rw [z]; exact List.mem_cons_self))]; exact e) (fun ⟨o, e⟩ => ⟨o, by rw [upd_ne (fun z => q.2.2 (by rw [z]; exact List.mem_cons_self))]; exact e⟩), q.2⟩) id)
      (fun k => (n k).imp (fun ⟨o, u, e, q, m⟩ => ⟨o, u, by rw [upd_ne (fun z => m.2 (by rw [z]; exact List.mem_cons_self))]; exact e, q, m⟩) id) (Reps.made r)
  | _, _, .lst h n r => .lst (by rw [upd_ne (fun z => n.2 (by rw [z]; exact List.mem_cons_self))]; exact h) n (Reps.made r)
  | _, _, .scr h => .scr (h.imp (fun q => ⟨q.1.imp (fun e => by rw [upd_ne (fun z => q.2.2 (by rw [z]; exact List.mem_cons_self))]; exact e) (fun ⟨o, e⟩ => ⟨o, by rw [upd_ne (fun z => q.2.2 (by rw [z]; exact List.mem_cons_self))]; exact e⟩), q.2⟩) id)
  | _, _, .dic h n r => .dic (h.imp (fun e => by rw [upd_ne (fun z => n.2 (by rw [z]; exact List.mem_cons_self))]; exact e) (fun ⟨o, e⟩ => ⟨o, by rw [upd_ne (fun z => n.2 (by rw [z]; exact List.mem_cons_self))]; exact e⟩)) n (Reps.made r)
  | _, _, .ref h => .ref h
  | _, _, .clo h1 h2 n1 n2 t1 t2 => .clo (by rw [upd_ne (fun z => n1.2 (by rw [z]; exact List.mem_cons_self))]; exact h1) (by rw [upd_ne (fun z => n2.2 (by rw [z]; exact List.mem_cons_self))]; exact h2) n1 n2 t1 t2
theorem Reps.made {b : Addr} {o : HO} : ∀ {ds : List D} {vs : List V}, Reps (Z.with b) ρ H ds vs → Reps (Z.with b) ρ (upd H b o) ds vs
  | _, _, .nil => .nil
  | _, _, .cons a r => .cons (Rep.made a) (Reps.made r)
end
theorem CellOk.with_ {Z' : Zx} {H' : Hp} {a : Addr} (h : CellOk Z ρ H a d) (e : H' a = H a) (f : ∀ {ds : List D} {vs : List V}, Reps Z ρ H ds vs → Reps Z' ρ H' ds vs) : CellOk Z' ρ H' a d := by
  cases d with
  | lst ds => obtain ⟨xs, h1, h2⟩ := h; exact ⟨xs, by rw [e]; exact h1, f h2⟩
  | dic ks vs => obtain ⟨kvs, h1, h2, h3⟩ := h; exact ⟨kvs, by rw [e]; exact h1, h2, f h3⟩
  | _ => trivial
theorem MuOk.less {b : Addr} (m : MuOk (Z.with b) ρ H μ) : MuOk Z ρ H μ :=
  ⟨m.nd, m.len, m.live, fun i a d h1 h2 => (m.cell i a d h1 h2).with_ rfl Reps.less, m.tb, m.tbn, fun a ha => m.exl a (List.mem_cons_of_mem _ ha), fun a ha => m.exn a (List.mem_cons_of_mem _ ha), fun p hp => let ⟨e, n, t⟩ := m.gl p hp; ⟨e, n.less, t⟩, fun P hP q hq ps h pos cv hc => let ⟨c, e1, e2, n⟩ := m.tq P hP q hq ps h pos cv hc; ⟨c, e1, e2, n.less⟩⟩
/-- a new object, known to be no part of any tree -/
theorem MuOk.start {b : Addr} {o : HO} (m : MuOk Z ρ H μ) (hb : H b = none) : MuOk (Z.with b) ρ (upd H b o) μ := by
  obtain ⟨m1, hp, hx⟩ := m.new1 (o := o) hb
  refine ⟨m.nd, m.len, m1.live, fun i a d h1 h2 => ?_, m1.tb, m.tbn, fun a ha => ?_, fun a ha => ?_, fun p hp => ?_, fun P hP q hq ps h pos cv hc => ?_⟩
  · have hne : a ≠ b := fun z => hp (z ▸ List.mem_of_getElem? h1)
    exact (m.cell i a d h1 h2).with_ (upd_ne hne) fun r => (r.more hb).made
  · rcases List.mem_cons.mp ha with z | z
    · exact ⟨o, by rw [z, upd_same]⟩
    · exact m1.exl a z
  · rcases List.mem_cons.mp ha with z | z
    · rw [z]; exact hp
    · exact m.exn a z
  · obtain ⟨e, n, t⟩ := m.gl p hp
    exact ⟨(m1.gl p hp).1, n.more (ne_of_none e hb), t⟩
  · obtain ⟨ps', e', _⟩ := m.tb P hP
    rw [upd_ne (ne_of_none e' hb)] at h
    obtain ⟨c, e1, e2, n⟩ := m.tq P hP q hq ps h pos cv hc
    exact ⟨c, e1, by rw [upd_ne (ne_of_none e2 hb)]; exact e2, n.more (ne_of_none e2 hb)⟩
theorem MuOk.made {b : Addr} {o u : HO} (m : MuOk (Z.with b) ρ H μ) (hb : H b = some u) (hu : ∀ ps, u ≠ .tbl ps) : MuOk (Z.with b) ρ (upd H b o) μ := by
  have hbr : b ∉ ρ := m.exn b List.mem_cons_self
  have live : ∀ a w, H a = some w → ∃ w', upd H b o a = some w' := fun a w e => by
    by_cases z : a = b
    · exact ⟨o, by rw [z, upd_same]⟩
    · exact ⟨w, by rw [upd_ne z]; exact e⟩
  refine ⟨m.nd, m.len, fun a ha => ?_, fun i a d h1 h2 => ?_, fun P hP => ?_, m.tbn, fun a ha => ?_, m.exn, fun p hp => ?_, fun P hP q hq ps h pos cv hc => ?_⟩
  · obtain ⟨w, e⟩ := m.live a ha; exact live a w e
  · have hne : a ≠ b := fun z => hbr (z ▸ List.mem_of_getElem? h1)
    exact (m.cell i a d h1 h2).with_ (upd_ne hne) Reps.made
  · have hne : P ≠ b := fun z => by
      obtain ⟨ps, e, _⟩ := m.tb P hP
      rw [z, hb] at e
      exact hu ps (Option.some.inj e)
    exact TabG.ne (m.tb P hP) (upd_ne hne)
  · obtain ⟨w, e⟩ := m.exl a ha; exact live a w e
  · obtain ⟨e, n, t⟩ := m.gl p hp
    have hne : p.1 ≠ b := fun z => n.2 (by rw [z]; exact List.mem_cons_self)
    exact ⟨by rw [upd_ne hne]; exact e, n, t⟩
  · have hne : P ≠ b := fun z => by
      obtain ⟨ps, e, _⟩ := m.tb P hP
      rw [z, hb] at e
      exact hu ps (Option.some.inj e)
    rw [upd_ne hne] at h
    obtain ⟨c, e1, e2, n⟩ := m.tq P hP q hq ps h pos cv hc
    exact ⟨c, e1, by rw [upd_ne (fun z => n.2 (by rw [z]; exact List.mem_cons_self))]; exact e2, n⟩
end
end Mi
set_option Elab.async false
set_option linter.all false
set_option maxRecDepth 100000
set_option maxHeartbeats 2000000
/-! Mo: the operations by values. -/
namespace Mi
open PySem PySem.Spec PyProof.Rows L2
/-! ### texts -/
theorem mkS_len (s : T) : (mkS s).length = s.length := by simp [Str.length]
theorem mkS_app (a b : T) : mkS a ++ mkS b = mkS (a ++ b) := by
  show Str.append _ _ = _
  simp [Str.append]
theorem mkS_inj {a b : T} (h : mkS a = mkS b) : a = b := by
  have : (mkS a).cps.toList = (mkS b).cps.toList := by rw [h]
  simpa using this
theorem mkS_of (x : PySem.Str) : mkS x.cps.toList = x := by cases x; simp
theorem tl_mkS (s : T) : (mkS s).cps.toList = s := by simp
theorem line_eq : sizeLine = LINE := by decide

section
variable {Z : Zx} {ρ : List Addr} {H : Hp} {μ : Mu} {d : D} {v : V}
theorem kt_sq {a : Addr} {xs : List V} (h : (Rd H a (.tup xs) ∧ Out Z ρ a) ∨ KT Z.K a xs) : SqT Z.K H a xs := h.imp (·.1) id
theorem kl_sq {a : Addr} {xs : List V} (h : (Rd H a (.lst xs) ∧ Out Z ρ a) ∨ KL Z.K a xs) : SqL Z.K H a xs := h.imp (·.1) id
theorem lstOf_rep (m : MuOk Z ρ H μ) (r : Rep Z ρ H d v) {ds : List D} (h : lstOf μ d = some ds) : ∃ a xs, v = .ref a ∧ H a = some (.lst xs) ∧ Reps Z ρ H ds xs := by
  cases r with
  | lst h1 h2 h3 => cases h; exact ⟨_, _, rfl, h1, h3⟩
  | @ref i a h1 =>
    have h' : (match (match μ[i]? with | some (.lst xs) => D.lst xs | _ => D.ref i) with | .lst xs => some xs | _ => none) = some ds := h
    cases e : μ[i]? with
    | none => rw [e] at h'; cases h'
    | some c =>
      rw [e] at h'
      cases c with
      | lst xs =>
        cases h'
        obtain ⟨vs, q1, q2⟩ := m.cell i a _ h1 e
        exact ⟨a, vs, rfl, q1, q2⟩
      | _ => cases h'
  | _ => cases h
theorem seqOf_rep (m : MuOk Z ρ H μ) (r : Rep Z ρ H d v) {ds : List D} (h : seqOf μ d = some ds) : ∃ a xs, v = .ref a ∧ (SqL Z.K H a xs ∨ SqT Z.K H a xs) ∧ Reps Z ρ H ds xs := by
  cases r with
  | lst h1 h2 h3 => cases h; exact ⟨_, _, rfl, .inl (.of h1), h3⟩
  | tup h1 _ h3 => cases h; exact ⟨_, _, rfl, .inr (kt_sq h1), h3⟩
  | @ref i a h1 =>
    have h' : (match (match μ[i]? with | some (.lst xs) => D.lst xs | _ => D.ref i) with | .lst xs => some xs | .tup _ xs => some xs | _ => none) = some ds := h
    cases e : μ[i]? with
    | none => rw [e] at h'; cases h'
    | some c =>
      rw [e] at h'
      cases c with
      | lst xs =>
        cases h'
        obtain ⟨vs, q1, q2⟩ := m.cell i a _ h1 e
        exact ⟨a, vs, rfl, .inl (.of q1), q2⟩
      | _ => cases h'
  | _ => cases h
theorem dicOf_rep (m : MuOk Z ρ H μ) (r : Rep Z ρ H d v) {ks vs : List D} (h : dicOf μ d = some (ks, vs)) :
    ∃ (a : Addr) (kvs : List (L2.Key × V)), v = .ref a ∧ Rd H a (.dK kvs) ∧ ks = kvs.map (fun p => keyD p.1) ∧ Reps Z ρ H vs (kvs.map (·.2)) := by
  cases r with
  | dic h1 h2 h3 => cases h; exact ⟨_, _, rfl, h1, rfl, h3⟩
  | @ref i a h1 =>
    have h' : (match μ[i]? with | some (.dic ks vs) => some (ks, vs) | _ => none) = some (ks, vs) := h
    cases e : μ[i]? with
    | none => rw [e] at h'; cases h'
    | some c =>
      rw [e] at h'
      cases c with
      | dic ks vs =>
        cases h'
        obtain ⟨kvs, q1, q2, q3⟩ := m.cell i a _ h1 e
        exact ⟨a, kvs, rfl, .inl q1, q2, q3⟩
      | _ => cases h'
  | _ => cases h
/-- a view is a list's own data -/
theorem view_rep (m : MuOk Z ρ H μ) (r : Rep Z ρ H d v) : view μ d = d ∨ ∃ ds a xs, view μ d = .lst ds ∧ v = .ref a ∧ H a = some (.lst xs) ∧ Reps Z ρ H ds xs := by
  cases r with
  | @ref i a h1 =>
    show (match μ[i]? with | some (.lst xs) => D.lst xs | _ => D.ref i) = D.ref i ∨ ∃ ds b xs, (match μ[i]? with | some (.lst xs) => D.lst xs | _ => D.ref i) = D.lst ds ∧ V.ref a = V.ref b ∧ _
    cases e : μ[i]? with
    | none => exact .inl rfl
    | some c =>
      cases c with
      | lst xs =>
        obtain ⟨vs, q1, q2⟩ := m.cell i a _ h1 e
        exact .inr ⟨xs, a, vs, rfl, rfl, q1, q2⟩
      | _ => exact .inl rfl
  | _ => exact .inl rfl
theorem rep_str {s : T} (r : Rep Z ρ H (.str s) v) : v = .str (mkS s) := by cases r; rfl
theorem rep_int {i : Int} (r : Rep Z ρ H (.int i) v) : v = .int i := by cases r; rfl
theorem reps_strs : ∀ {ds : List D} {vs : List V} {ss : List T}, Reps Z ρ H ds vs → toStrs ds = some ss → vs = (ss.map mkS).map V.str
  | _, _, ss, .nil, h => by cases h; rfl
  | d :: ds, _, ss, .cons a r, h => by
    cases a with
    | str s =>
      have h' : (toStrs ds).map (s :: ·) = some ss := h
      cases e : toStrs ds with
      | none => rw [e] at h'; cases h'
      | some l =>
        rw [e] at h'
        cases h'
        rw [reps_strs r e]
        rfl
    | _ => cases h
theorem reps_ints : ∀ {ds : List D} {vs : List V} {ns : List Int}, Reps Z ρ H ds vs → toInts ds = some ns → vs = ns.map V.int
  | _, _, ns, .nil, h => by cases h; rfl
  | d :: ds, _, ns, .cons a r, h => by
    cases a with
    | int i =>
      have h' : (toInts ds).map (i :: ·) = some ns := h
      cases e : toInts ds with
      | none => rw [e] at h'; cases h'
      | some l =>
        rw [e] at h'
        cases h'
        rw [reps_ints r e]
        rfl
    | _ => cases h
theorem reps_of_strs (ss : List T) : Reps Z ρ H (ss.map D.str) ((ss.map mkS).map V.str) := by
  induction ss with
  | nil => exact .nil
  | cons s ss ih => exact .cons (.str s) ih
theorem reps_of_ints (ns : List Int) : Reps Z ρ H (ns.map D.int) (ns.map V.int) := by
  induction ns with
  | nil => exact .nil
  | cons s ss ih => exact .cons (.int s) ih
/-! ### flat values -/
theorem flat_rep (r : Rep Z ρ H d v) (h : flat d = true) : flatV v = true := by
  cases r <;> first | rfl | cases h
theorem flat_eq {e : D} {u : V} (r : Rep Z ρ H d v) (q : Rep Z ρ H e u) (h : flat d = true) (g : flat e = true) : eqV v u = eqv d e := by
  have hs : ∀ a b : T, ((mkS a : PySem.Str) == mkS b) = (a == b) := fun a b => by
    by_cases e : a = b
    · subst e; simp
    · rw [beq_eq_false_iff_ne.mpr e, beq_eq_false_iff_ne.mpr (fun z => e (mkS_inj z))]
  cases r <;> first
    | (exfalso; revert h; simp [flat]; done)
    | (cases q <;> first
        | (exfalso; revert g; simp [flat]; done)
        | (simp only [eqV, eqv]; done)
        | (simp only [eqV, eqv, hs]; done))
theorem reps_flat : ∀ {ds : List D} {vs : List V}, Reps Z ρ H ds vs → ds.all flat = true → vs.all flatV = true
  | _, _, .nil, _ => rfl
  | _, _, .cons a r, h => by
    simp only [List.all_cons, Bool.and_eq_true] at h ⊢
    exact ⟨flat_rep a h.1, reps_flat r h.2⟩
theorem reps_any {x : D} {xv : V} (rx : Rep Z ρ H x xv) (fx : flat x = true) : ∀ {ds : List D} {vs : List V}, Reps Z ρ H ds vs → ds.all flat = true → inV xv vs = ds.any (eqv · x)
  | _, _, .nil, _ => rfl
  | _, _, .cons a r, h => by
    simp only [List.all_cons, Bool.and_eq_true] at h
    have ih := reps_any rx fx r h.2
    unfold inV at ih ⊢
    rw [List.any_cons, List.any_cons, flat_eq a rx h.1 fx, ih]
/-! ### plain data -/
mutual
def toPy : D → PyData
  | .non => .none
  | .bl b => .bool b
  | .int i => .int i
  | .str s => .str (mkS s)
  | .tup _ xs => .tuple (toPys xs)
  | .lst xs => .list (toPys xs)
  | _ => .none
def toPys : List D → List PyData
  | [] => []
  | x :: xs => toPy x :: toPys xs
end
mutual
theorem plain_dp : ∀ (n : Nat) (d : D) (v : V), plain n d = true → Rep Z ρ H d v → Dp Z.K H v (toPy d)
  | _, .non, _, h, .non => .non
  | _, .bl b, _, h, .bl _ => .bl b
  | _, .int i, _, h, .int _ => .int i
  | _, .str s, _, h, .str _ => .str _
  | n + 1, .tup _ xs, _, h, .tup h1 _ r => .tup (kt_sq h1) (plains_dp n xs _ (by simpa only [plain] using h) r)
  | n + 1, .lst xs, _, h, .lst h1 _ r => .lst (.of h1) (plains_dp n xs _ (by simpa only [plain] using h) r)
  | 0, .tup _ xs, _, h, _ => by simp only [plain] at h; cases h
  | 0, .lst xs, _, h, _ => by simp only [plain] at h; cases h
  | n, .scr _, _, h, _ => by cases n <;> simp only [plain] at h <;> cases h
  | n, .dic _ _, _, h, _ => by cases n <;> simp only [plain] at h <;> cases h
  | n, .ref _, _, h, _ => by cases n <;> simp only [plain] at h <;> cases h
theorem plains_dp : ∀ (n : Nat) (ds : List D) (vs : List V), plains n ds = true → Reps Z ρ H ds vs → DpAll Z.K H vs (toPys ds)
  | _, _, _, _, .nil => .nil
  | n, d :: ds, _, h, .cons a r => by
    simp only [plains, Bool.and_eq_true] at h
    exact .cons (plain_dp n d _ h.1 a) (plains_dp n ds _ h.2 r)
end
mutual
theorem toPy_ok : ∀ (n : Nat) (d : D), plain n d = true → (toPy d).canLay0 = true ∧ (toPy d).depth ≤ n
  | n, .non, h => by simp [toPy, PyData.canLay0, PyData.depth]
  | n, .bl b, h => by simp [toPy, PyData.canLay0, PyData.depth]
  | n, .int i, h => by simp [toPy, PyData.canLay0, PyData.depth]
  | n, .str s, h => by
    have h' : s.all (· < 1114112) = true := by cases n <;> simpa only [plain] using h
    simp only [toPy, PyData.canLay0, PyData.depth, PyData.strOk]
    refine ⟨?_, Nat.zero_le _⟩
    rw [Array.all_eq_true']
    intro x hx
    have := List.all_eq_true.mp h' x (by simpa using hx)
    simpa using this
  | 0, .tup _ xs, h => by simp only [plain] at h; cases h
  | n + 1, .tup _ xs, h => by
    have h' : plains n xs = true := by simpa only [plain] using h
    have := toPys_ok n xs h'
    simp only [toPy, PyData.canLay0, PyData.depth]
    exact ⟨this.1, by omega⟩
  | 0, .lst xs, h => by simp only [plain] at h; cases h
  | n + 1, .lst xs, h => by
    have h' : plains n xs = true := by simpa only [plain] using h
    have := toPys_ok n xs h'
    simp only [toPy, PyData.canLay0, PyData.depth]
    exact ⟨this.1, by omega⟩
  | n, .scr _, h => by cases n <;> simp only [plain] at h <;> cases h
  | n, .dic _ _, h => by cases n <;> simp only [plain] at h <;> cases h
  | n, .ref _, h => by cases n <;> simp only [plain] at h <;> cases h
  | n, .clo _, h => by cases n <;> simp only [plain] at h <;> cases h
  | n, .ins _ _ _, h => by cases n <;> simp only [plain] at h <;> cases h
theorem toPys_ok : ∀ (n : Nat) (ds : List D), plains n ds = true → PyData.canLayAll0 (toPys ds) = true ∧ PyData.depthAll (toPys ds) ≤ n
  | n, [], h => by simp [toPys, PyData.canLayAll0, PyData.depthAll]
  | n, d :: ds, h => by
    simp only [plains, Bool.and_eq_true] at h
    have h1 := toPy_ok n d h.1
    have h2 := toPys_ok n ds h.2
    simp only [toPys, PyData.canLayAll0, PyData.depthAll, Bool.and_eq_true]
    exact ⟨⟨h1.1, h2.1⟩, by omega⟩
end
theorem plain_shaped {n : Nat} (hn : n ≤ 64) (h : plain n d = true) : SeqAt.shaped (toPy d) = true := by
  obtain ⟨h1, h2⟩ := toPy_ok n d h
  unfold SeqAt.shaped
  rw [h1, Bool.true_and, decide_eq_true_eq]
  omega
theorem mkS_beq (a b : T) : (mkS a == mkS b) = (a == b) := by
  by_cases e : a = b
  · subst e; simp
  · rw [beq_eq_false_iff_ne.mpr e, beq_eq_false_iff_ne.mpr (fun z => e (mkS_inj z))]
mutual
theorem eqv_py : ∀ (n m : Nat) (d e : D), plain n d = true → plain m e = true → PyData.eqv (toPy d) (toPy e) = eqv d e
  | n, m, .non, e, _, h => by cases e <;> first | (exfalso; cases m <;> simp [plain] at h; done) | (simp only [toPy, PyData.eqv, eqv]; done)
  | n, m, .bl b, e, _, h => by cases e <;> first | (exfalso; cases m <;> simp [plain] at h; done) | (simp only [toPy, PyData.eqv, eqv]; done)
  | n, m, .int b, e, _, h => by cases e <;> first | (exfalso; cases m <;> simp [plain] at h; done) | (simp only [toPy, PyData.eqv, eqv]; done)
  | n, m, .str b, e, _, h => by cases e <;> first | (simp only [toPy, PyData.eqv, eqv]; done) | (simp only [toPy, PyData.eqv, eqv, mkS_beq]; done) | (exfalso; cases m <;> simp [plain] at h)
  | 0, m, .tup _ xs, e, h, _ => by simp only [plain] at h; cases h
  | n + 1, m, .tup _ xs, e, h, g => by
    cases e with
    | tup _ ys =>
      cases m with
      | zero => simp only [plain] at g; cases g
      | succ m => simp only [toPy, PyData.eqv, eqv]; exact eqvs_py n m xs ys (by simpa only [plain] using h) (by simpa only [plain] using g)
    | _ => first | (simp only [toPy, PyData.eqv, eqv]; done) | (exfalso; cases m <;> simp [plain] at g)
  | 0, m, .lst xs, e, h, _ => by simp only [plain] at h; cases h
  | n + 1, m, .lst xs, e, h, g => by
    cases e with
    | lst ys =>
      cases m with
      | zero => simp only [plain] at g; cases g
      | succ m => simp only [toPy, PyData.eqv, eqv]; exact eqvs_py n m xs ys (by simpa only [plain] using h) (by simpa only [plain] using g)
    | _ => first | (simp only [toPy, PyData.eqv, eqv]; done) | (exfalso; cases m <;> simp [plain] at g)
  | n, m, .scr _, e, h, _ => by cases n <;> simp only [plain] at h <;> cases h
  | n, m, .dic _ _, e, h, _ => by cases n <;> simp only [plain] at h <;> cases h
  | n, m, .ref _, e, h, _ => by cases n <;> simp only [plain] at h <;> cases h
  | n, m, .clo _, e, h, _ => by cases n <;> simp only [plain] at h <;> cases h
  | n, m, .ins _ _ _, e, h, _ => by cases n <;> simp only [plain] at h <;> cases h
theorem eqvs_py : ∀ (n m : Nat) (ds es : List D), plains n ds = true → plains m es = true → PyData.eqvAll (toPys ds) (toPys es) = eqvs ds es
  | n, m, [], [], _, _ => by simp only [toPys, PyData.eqvAll, eqvs]
  | n, m, [], _ :: _, _, _ => by simp only [toPys, PyData.eqvAll, eqvs]
  | n, m, _ :: _, [], _, _ => by simp only [toPys, PyData.eqvAll, eqvs]
  | n, m, d :: ds, e :: es, h, g => by
    simp only [plains, Bool.and_eq_true] at h g
    simp only [toPys, PyData.eqvAll, eqvs]
    rw [eqv_py n m d e h.1 g.1, eqvs_py n m ds es h.2 g.2]
end
/-- a view's data -/
theorem view_dp (m : MuOk Z ρ H μ) (r : Rep Z ρ H d v) {n : Nat} (h : plain n (view μ d) = true) : Dp Z.K H v (toPy (view μ d)) := by
  rcases view_rep m r with e | ⟨ds, a, xs, e1, e2, e3, e4⟩
  · rw [e] at h ⊢
    exact plain_dp n d v h r
  · rw [e1] at h ⊢
    subst e2
    cases n with
    | zero => simp only [plain] at h; cases h
    | succ n => exact .lst (.of e3) (plains_dp n ds xs (by simpa only [plain] using h) e4)
end
end Mi
set_option Elab.async false
set_option linter.all false
set_option maxRecDepth 100000
set_option maxHeartbeats 4000000
/-! Mp: operators, subscripts, built-ins and methods, by values, over trees and cells. -/
namespace Mi
open PySem PySem.Spec PyProof.Rows L2
/-- what is wanted of a value that may be told -/
def PV (Z : Zx) (ρ : List Addr) (H : Hp) (μ : Mu) (Q : VK) : Option D → Prop
  | some d => ∀ ρ' H' v, Ext ρ H ρ' H' → MuOk Z ρ' H' μ → Rep Z ρ' H' d v → Q v H'
  | none => False
def rM2 (Z : Zx) (f : Mu → D → D → Option D) : R2 := fun x y H Q => ∃ ρ μ d e, MuOk Z ρ H μ ∧ Rep Z ρ H d x ∧ Rep Z ρ H e y ∧ PV Z ρ H μ Q (f μ d e)
def rMn (Z : Zx) (f : Mu → List D → Option D) : List V → Hp → VK → Prop := fun xs H Q => ∃ ρ μ ds, MuOk Z ρ H μ ∧ Reps Z ρ H ds xs ∧ PV Z ρ H μ Q (f μ ds)
section
variable {Z : Zx} {ρ : List Addr} {H : Hp} {μ : Mu} {d e : D} {v u : V} {Q : VK} {X : Cx}
theorem PV.val (p : PV Z ρ H μ Q (some d)) (m : MuOk Z ρ H μ) (r : Rep Z ρ H d v) : Q v H := p ρ H v (.refl _ _) m r
theorem PV.lst {ds : List D} {xs : List V} (p : PV Z ρ H μ Q (some (.lst ds))) (m : MuOk Z ρ H μ) (r : Reps Z ρ H ds xs) : ∀ a, H a = none → Q (.ref a) (upd H a (.lst xs)) := fun a ha =>
  let x := Ext.new1 (o := .lst xs) ρ ha
  p ρ _ _ x (m.new1 ha).1 (.lst upd_same (m.new1 (o := .lst xs) ha).2 (r.ext x))
theorem PV.tup {ds : List D} {xs : List V} (p : PV Z ρ H μ Q (some (.tup false ds))) (m : MuOk Z ρ H μ) (r : Reps Z ρ H ds xs) : ∀ a, H a = none → Q (.ref a) (upd H a (.tup xs)) := fun a ha =>
  let x := Ext.new1 (o := .tup xs) ρ ha
  p ρ _ _ x (m.new1 ha).1 (.tup (.inl ⟨.inl upd_same, (m.new1 (o := .tup xs) ha).2⟩) (fun z => by cases z) (r.ext x))
theorem line_le {n : Nat} (h : n ≤ LINE) : n ≤ sizeLine := by rw [line_eq]; exact h
theorem two64_eq : (two64 : Int) = 2 ^ 64 := by decide
theorem small_ok {i : Int} (h : small i = true) : -(2 ^ 64) < i ∧ i < 2 ^ 64 := by
  unfold small at h
  simp only [Bool.and_eq_true, decide_eq_true_eq] at h
  rw [← two64_eq]
  exact h
theorem repl_len {α : Type} (n : Nat) (xs : List α) : (repL n xs).length = n * xs.length := by
  unfold repL
  induction n with
  | zero => simp
  | succ n ih => rw [List.replicate_succ, List.flatten_cons, List.length_append, ih, Nat.succ_mul, Nat.add_comm]
/-! ### operators -/
theorem op_addM (hK : Z.K = X.K) : OpR X (binaryOp .Add) (rM2 Z (binM .add)) := by
  intro pins s σ H x y v u Q I rx ry h
  obtain ⟨ρ, μ, d, e, m, hd, he, p⟩ := h
  simp only [binM] at p
  split at p
  · cases hd; cases he
    exact op_add pins s σ H _ _ v u Q I rx ry ⟨_, _, rfl, rfl, p.val m (.int _)⟩
  · split at p
    · cases hd; cases he
      refine op_add_str pins s σ H _ _ v u Q I rx ry ⟨_, _, rfl, rfl, ?_, ?_⟩
      · rw [mkS_len, mkS_len]; exact line_le ‹_›
      · rw [mkS_app]; exact p.val m (.str _)
    · exact p.elim
  · split at p
    · rename_i xs ys h1 h2
      split at p
      · obtain ⟨a, vs, rfl, ha, ra⟩ := lstOf_rep m hd h1
        obtain ⟨b, ws, rfl, hb, rb⟩ := lstOf_rep m he h2
        refine op_cat pins s σ H _ _ v u Q I rx ry ⟨a, b, vs, ws, rfl, rfl, ha, hb, ?_, p.lst m (ra.append rb)⟩
        rw [← ra.length, ← rb.length]
        exact line_le ‹_›
      · exact p.elim
    · exact p.elim
theorem op_subM (hK : Z.K = X.K) : OpR X (binaryOp .Sub) (rM2 Z (binM .sub)) := by
  intro pins s σ H x y v u Q I rx ry h
  obtain ⟨ρ, μ, d, e, m, hd, he, p⟩ := h
  simp only [binM] at p
  split at p <;> try (exact p.elim)
  cases hd; cases he
  exact op_sub pins s σ H _ _ v u Q I rx ry ⟨_, _, rfl, rfl, p.val m (.int _)⟩
theorem op_fdivM (hK : Z.K = X.K) : OpR X (binaryOp .FloorDiv) (rM2 Z (binM .fdiv)) := by
  intro pins s σ H x y v u Q I rx ry h
  obtain ⟨ρ, μ, d, e, m, hd, he, p⟩ := h
  simp only [binM] at p
  split at p <;> try (exact p.elim)
  split at p <;> try (exact p.elim)
  rename_i hc
  simp only [Bool.and_eq_true, decide_eq_true_eq] at hc
  cases hd; cases he
  exact op_fdiv pins s σ H _ _ v u Q I rx ry ⟨_, _, rfl, rfl, hc, p.val m (.int _)⟩
theorem op_modM (hK : Z.K = X.K) : OpR X (binaryOp .Mod) (rM2 Z (binM .mod)) := by
  intro pins s σ H x y v u Q I rx ry h
  obtain ⟨ρ, μ, d, e, m, hd, he, p⟩ := h
  simp only [binM] at p
  split at p <;> try (exact p.elim)
  split at p <;> try (exact p.elim)
  rename_i hc
  simp only [decide_eq_true_eq] at hc
  cases hd; cases he
  exact op_mod pins s σ H _ _ v u Q I rx ry ⟨_, _, rfl, rfl, hc, p.val m (.int _)⟩
theorem op_powM (hK : Z.K = X.K) : OpR X (binaryOp .Pow) (rM2 Z (binM .pow)) := by
  intro pins s σ H x y v u Q I rx ry h
  obtain ⟨ρ, μ, d, e, m, hd, he, p⟩ := h
  simp only [binM] at p
  split at p <;> try (exact p.elim)
  split at p <;> try (exact p.elim)
  rename_i hc
  simp only [Bool.and_eq_true, decide_eq_true_eq] at hc
  obtain ⟨⟨h1, h2⟩, h3⟩ := hc
  have h4 := small_ok h3
  cases hd; cases he
  exact op_pow pins s σ H _ _ v u Q I rx ry ⟨_, _, rfl, rfl, ⟨h1, by omega, by omega⟩, p.val m (.int _)⟩
theorem fold_app (n : Nat) (x acc : Array Nat) : ((List.replicate n x).foldl (· ++ ·) acc).toList = acc.toList ++ (List.replicate n x.toList).flatten := by
  induction n generalizing acc with
  | zero => simp
  | succ n ih => rw [List.replicate_succ, List.foldl_cons, ih, List.replicate_succ, List.flatten_cons]; simp
theorem mul_txt {A : Around} {E : Value → Shared → Prop} {s : Shared} {a : T} {j : Int} {t u : Tok} {Q : Value → Shared → Prop} (h1 : -100000 ≤ j) (h2 : j ≤ 100000) (h3 : a.length ≤ 100)
    (h : ∀ t' k, Q (.str (mkS (repL j.toNat a)) t') { s with toks := k }) : wpAny (model X.prog X.w) A (binaryOp .Mult (.str (mkS a) t) (.int j u)) Q E s := by
  have hl : (mkS a).length = a.length := mkS_len a
  refine PySem.P.mul_str ?_ (fun h4 _ => ?_) (fun h4 _ => ?_) ?_
  · have e1 : ¬ j < -(2 ^ 63 : Int) := by omega
    have e2 : ¬ j ≥ 2 ^ 63 := by omega
    rw [decide_eq_false e1, decide_eq_false e2] <;> rfl
  · rw [hl]
    have : (92233720368547 : Int) ≤ (2 ^ 63 - 1) / j := by
      refine (Int.le_ediv_iff_mul_le (by omega)).mpr ?_
      omega
    omega
  · rw [hl]
    have : a.length * j.toNat ≤ 100 * 100000 := Nat.mul_le_mul h3 (by omega)
    show decide _ = false
    rw [decide_eq_false_iff_not]
    have := sizeLine_eq
    omega
  · split
    · refine ⟨by decide, ?_⟩
      have e : repL j.toNat a = [] := by
        rw [show j.toNat = 0 by omega]; rfl
      have := h s.toks (s.toks + 1)
      rw [e] at this
      exact this
    · split
      · rename_i h4 h5
        have e : repL j.toNat a = a := by
          simp only [Bool.or_eq_true, beq_iff_eq] at h5
          rcases h5 with h5 | h5
          · rw [h5]; simp [repL]
          · rw [hl] at h5
            have : a = [] := List.length_eq_zero_iff.mp h5
            subst this
            unfold repL
            induction j.toNat with
            | zero => rfl
            | succ n ih => rw [List.replicate_succ, List.flatten_cons, ih] <;> rfl
        have := h t s.toks
        rw [e] at this
        exact this
      · have e : (⟨(List.replicate j.toNat (mkS a).cps).foldl (· ++ ·) #[]⟩ : PySem.Str) = mkS (repL j.toNat a) := by
          have h6 := fold_app j.toNat (mkS a).cps #[]
          have h7 : ((List.replicate j.toNat (mkS a).cps).foldl (· ++ ·) #[]).toList = repL j.toNat a := by
            rw [h6]
            unfold repL
            simp
          rw [← h7]
        rw [e]
        refine ⟨?_, h _ _⟩
        rw [mkS_len, repl_len]
        have : j.toNat * a.length ≤ 100000 * 100 := Nat.mul_le_mul (by omega) h3
        have := sizeLine_eq
        omega
theorem op_mulM (hK : Z.K = X.K) : OpR X (binaryOp .Mult) (rM2 Z (binM .mul)) := by
  intro pins s σ H x y v u Q I rx ry h
  obtain ⟨ρ, μ, d, e, m, hd, he, p⟩ := h
  simp only [binM] at p
  split at p
  · split at p
    · rename_i hc
      simp only [Bool.or_eq_true] at hc
      cases hd; cases he
      exact op_mul pins s σ H _ _ v u Q I rx ry ⟨_, _, rfl, rfl, hc.imp small_ok small_ok, p.val m (.int _)⟩
    · exact p.elim
  · split at p
    · rename_i hc
      simp only [Bool.and_eq_true, decide_eq_true_eq] at hc
      cases hd; cases he
      obtain ⟨t, rfl⟩ := rx
      obtain ⟨t', rfl⟩ := ry
      exact mul_txt hc.1.1 hc.1.2 hc.2 fun t2 k => ⟨.str _, H, I.tok _, ⟨t2, rfl⟩, p.val m (.str _)⟩
    · exact p.elim
  · split at p
    · rename_i xs h1
      split at p
      · rename_i hc
        simp only [Bool.and_eq_true, decide_eq_true_eq] at hc
        obtain ⟨a, vs, rfl, ha, ra⟩ := lstOf_rep m hd h1
        cases he
        refine op_rep pins s σ H _ _ v u Q I rx ry ⟨a, _, vs, rfl, rfl, ha, by omega, by omega, ?_, p.lst m (ra.rep _)⟩
        rw [← ra.length]
        refine line_le (Nat.le_trans (Nat.mul_le_mul hc.2 (show _ ≤ 100000 by omega)) ?_)
        decide
      · exact p.elim
    · exact p.elim
  · exact p.elim
/-! ### comparisons -/
def rC (Z : Zx) (o : CO) : R2 := rM2 Z fun μ x y => (cmpM o μ x y).map .bl
theorem op_eqM (hK : Z.K = X.K) (hu : X.A.units + 64 < cLine) : OpR X (compareOp .Eq) (rC Z .eq) := by
  intro pins s σ H x y v u Q I rx ry h
  obtain ⟨ρ, μ, d, e, m, hd, he, p⟩ := h
  simp only [cmpM] at p
  split at p
  · rename_i hc
    simp only [Bool.and_eq_true] at hc
    refine op_eqD hu pins s σ H _ _ v u Q I rx ry ⟨_, _, hK ▸ view_dp m hd hc.1, hK ▸ view_dp m he hc.2, plain_shaped (by decide) hc.1, plain_shaped (by decide) hc.2, ?_⟩
    rw [eqv_py _ _ _ _ hc.1 hc.2]
    exact p.val m (.bl _)
  · exact p.elim
theorem op_neM (hK : Z.K = X.K) (hu : X.A.units + 64 < cLine) : OpR X (compareOp .NotEq) (rC Z .ne) := by
  intro pins s σ H x y v u Q I rx ry h
  obtain ⟨ρ, μ, d, e, m, hd, he, p⟩ := h
  simp only [cmpM] at p
  split at p
  · rename_i hc
    simp only [Bool.and_eq_true] at hc
    refine op_neD hu pins s σ H _ _ v u Q I rx ry ⟨_, _, hK ▸ view_dp m hd hc.1, hK ▸ view_dp m he hc.2, plain_shaped (by decide) hc.1, plain_shaped (by decide) hc.2, ?_⟩
    rw [eqv_py _ _ _ _ hc.1 hc.2]
    exact p.val m (.bl _)
  · exact p.elim
theorem op_ltM (hK : Z.K = X.K) : OpR X (compareOp .Lt) (rC Z .lt) := by
  intro pins s σ H x y v u Q I rx ry h
  obtain ⟨ρ, μ, d, e, m, hd, he, p⟩ := h
  simp only [cmpM] at p
  split at p <;> try (exact p.elim)
  cases hd; cases he
  exact op_lt pins s σ H _ _ v u Q I rx ry ⟨_, _, rfl, rfl, p.val m (.bl _)⟩
theorem op_leM (hK : Z.K = X.K) : OpR X (compareOp .LtE) (rC Z .le) := by
  intro pins s σ H x y v u Q I rx ry h
  obtain ⟨ρ, μ, d, e, m, hd, he, p⟩ := h
  simp only [cmpM] at p
  split at p <;> try (exact p.elim)
  cases hd; cases he
  exact op_le pins s σ H _ _ v u Q I rx ry ⟨_, _, rfl, rfl, p.val m (.bl _)⟩
theorem op_gtM (hK : Z.K = X.K) : OpR X (compareOp .Gt) (rC Z .gt) := by
  intro pins s σ H x y v u Q I rx ry h
  obtain ⟨ρ, μ, d, e, m, hd, he, p⟩ := h
  simp only [cmpM] at p
  split at p <;> try (exact p.elim)
  cases hd; cases he
  exact op_gt pins s σ H _ _ v u Q I rx ry ⟨_, _, rfl, rfl, p.val m (.bl _)⟩
theorem op_geM (hK : Z.K = X.K) : OpR X (compareOp .GtE) (rC Z .ge) := by
  intro pins s σ H x y v u Q I rx ry h
  obtain ⟨ρ, μ, d, e, m, hd, he, p⟩ := h
  simp only [cmpM] at p
  split at p <;> try (exact p.elim)
  cases hd; cases he
  exact op_ge pins s σ H _ _ v u Q I rx ry ⟨_, _, rfl, rfl, p.val m (.bl _)⟩
theorem keyD_of (x : D) (hx : isKey x = true) : ∃ k : L2.Key, keyD k = x ∧ ∀ {Z ρ H v}, Rep Z ρ H x v → v = kV k := by
  cases x <;> first | (exfalso; revert hx; simp [isKey]; done) | skip
  · rename_i i; exact ⟨.inl i, rfl, fun r => by cases r; rfl⟩
  · rename_i t; exact ⟨.inr (mkS t), by simp [keyD], fun r => by cases r; rfl⟩
theorem keyEq_key (k j : L2.Key) : keyEq (keyD k) (keyD j) = decide (k = j) := by
  cases k <;> cases j
  · rename_i a b
    rw [key_ll]; rfl
  · rw [key_lr]; rfl
  · rw [key_rl]; rfl
  · rename_i a b
    rw [key_rr]
    show (a.cps.toList == b.cps.toList) = _
    by_cases h : a = b
    · subst h; simp
    · rw [decide_eq_false h]
      refine beq_eq_false_iff_ne.mpr fun z => h ?_
      rw [← mkS_of a, ← mkS_of b, z]
theorem getK_val (k : L2.Key) : ∀ {kvs : List (L2.Key × V)} {vs : List D}, Reps Z ρ H vs (kvs.map (·.2)) →
    (∀ d, getK (keyD k) (kvs.map fun p => keyD p.1) vs = some d → ∃ v, valV kvs k = some v ∧ Rep Z ρ H d v) ∧ (getK (keyD k) (kvs.map fun p => keyD p.1) vs = none → valV kvs k = none)
  | [], _, .nil => ⟨fun d h => by simp [getK] at h, fun _ => rfl⟩
  | (j, v) :: kvs, d :: ds, .cons a r => by
    have ih := getK_val k r
    simp only [List.map_cons, getK, keyEq_key]
    unfold valV at ih ⊢
    rw [List.find?_cons]
    by_cases h : j = k
    · subst h
      simp only [decide_true, if_true]
      exact ⟨fun e q => by cases q; exact ⟨v, rfl, a⟩, fun q => by cases q⟩
    · simp only [decide_eq_false h, Bool.false_eq_true, if_false]
      exact ih
theorem hasK_val (k : L2.Key) : ∀ (kvs : List (L2.Key × V)), hasK (keyD k) (kvs.map fun p => keyD p.1) = (valV kvs k).isSome
  | [] => rfl
  | (j, v) :: kvs => by
    have ih := hasK_val k kvs
    unfold hasK valV at ih ⊢
    rw [List.map_cons, List.any_cons, List.find?_cons, keyEq_key, ih]
    by_cases h : j = k
    · subst h; simp
    · simp [decide_eq_false h]
theorem in_rep (hu : X.A.units + 64 < cLine) (hK : Z.K = X.K) {pins : List (Addr × Obj)} {s : Shared} {σ : L2.St} {H : Hp} {x y : V} {v u : Value} {ρ : List Addr} {μ : Mu} {d e : D} {b : Bool} (I : Inv X pins σ H s) (rx : RelV x v) (ry : RelV y u)
    (m : MuOk Z ρ H μ) (hd : Rep Z ρ H d x) (he : Rep Z ρ H e y) (h : inM μ d e = some b) (neg : Bool) {Q : VK} (q : Q (.bl (if neg then !b else b)) H) :
    wpAny (model X.prog X.w) X.A (compareOp (if neg then .NotIn else .In) v u) (EP X pins σ Q) X.xe s := by
  unfold inM at h
  split at h
  · split at h
    · rename_i z _ c
      cases hd; cases he
      have e1 : decide (c ∈ (mkS z).cps.toList) = b := by
        rw [tl_mkS, ← Option.some.inj h]
        by_cases hc : c ∈ z <;> simp [hc]
      cases neg
      · refine op_in_sign pins s σ H _ _ v u Q I rx ry ⟨c, mkS z, rfl, rfl, ?_⟩
        rw [e1]; exact q
      · refine op_notIn_sign pins s σ H _ _ v u Q I rx ry ⟨c, mkS z, rfl, rfl, ?_⟩
        rw [e1]; exact q
    · cases h
  · split at h
    · rename_i ks vs hdic
      split at h
      · rename_i hk
        obtain ⟨a, kvs, rfl, rd, rfl, rv⟩ := dicOf_rep m he hdic
        obtain ⟨k, rfl, hkv⟩ := keyD_of d hk
        obtain rfl := hkv hd
        cases ry
        have g : DGet H a (kV k) (valV kvs k) := .inl ⟨kvs, k, rd, rfl, rfl⟩
        rw [hasK_val] at h
        have e1 := Option.some.inj h
        cases neg
        · exact d_in (by omega) I g rx fun s3 I3 => ⟨.bl _, H, I3, rfl, by rw [e1]; exact q⟩
        · exact d_notIn (by omega) I g rx fun s3 I3 => ⟨.bl _, H, I3, rfl, by rw [e1]; exact q⟩
      · cases h
    · split at h
      · rename_i ys hseq
        split at h
        · rename_i hf
          simp only [Bool.and_eq_true] at hf
          obtain ⟨a, vs, rfl, sq, rv⟩ := seqOf_rep m he hseq
          have e1 := (reps_any hd hf.1 rv hf.2).trans (Option.some.inj h)
          have fx := flat_rep hd hf.1
          have fs := reps_flat rv hf.2
          have sq' : SqL X.K H a vs ∨ SqT X.K H a vs := hK ▸ sq
          cases neg
          · exact op_in_seq pins s σ H _ _ v u Q I rx ry ⟨a, vs, rfl, sq', fx, fs, by rw [e1]; exact q⟩
          · exact op_notIn_seq pins s σ H _ _ v u Q I rx ry ⟨a, vs, rfl, sq', fx, fs, by rw [e1]; exact q⟩
        · cases h
      · cases h
theorem op_inM (hK : Z.K = X.K) (hu : X.A.units + 64 < cLine) : OpR X (compareOp .In) (rC Z .isin) := by
  intro pins s σ H x y v u Q I rx ry h
  obtain ⟨ρ, μ, d, e, m, hd, he, p⟩ := h
  have p' : PV Z ρ H μ Q ((inM μ d e).map .bl) := p
  cases hi : inM μ d e with
  | none => rw [hi] at p'; exact p'.elim
  | some b =>
    rw [hi] at p'
    exact in_rep hu hK I rx ry m hd he hi false (p'.val m (.bl b))
theorem op_ninM (hK : Z.K = X.K) (hu : X.A.units + 64 < cLine) : OpR X (compareOp .NotIn) (rC Z .nin) := by
  intro pins s σ H x y v u Q I rx ry h
  obtain ⟨ρ, μ, d, e, m, hd, he, p⟩ := h
  have p' : PV Z ρ H μ Q (((inM μ d e).map (!·)).map .bl) := p
  cases hi : inM μ d e with
  | none => rw [hi] at p'; exact p'.elim
  | some b =>
    rw [hi] at p'
    exact in_rep hu hK I rx ry m hd he hi true (p'.val m (.bl _))
theorem rep_non {d : D} : Rep Z ρ H d .non → d = .non := fun r => by cases r; rfl
theorem op_isM (hK : Z.K = X.K) : OpR X (compareOp .Is) (rC Z .is) := by
  intro pins s σ H x y v u Q I rx ry h
  obtain ⟨ρ, μ, d, e, m, hd, he, p⟩ := h
  simp only [cmpM] at p
  split at p <;> try (exact p.elim)
  · cases hd; cases he
    exact op_isN pins s σ H _ _ v u Q I rx ry ⟨rfl, p.val m (.bl _)⟩
  · rename_i h1 h2
    cases he
    refine op_isN pins s σ H _ _ v u Q I rx ry ⟨rfl, ?_⟩
    rw [decide_eq_false (fun z => h1 (by subst z; exact rep_non hd))]
    exact p.val m (.bl _)
theorem op_isnM (hK : Z.K = X.K) : OpR X (compareOp .IsNot) (rC Z .isn) := by
  intro pins s σ H x y v u Q I rx ry h
  obtain ⟨ρ, μ, d, e, m, hd, he, p⟩ := h
  simp only [cmpM] at p
  split at p <;> try (exact p.elim)
  · cases hd; cases he
    exact op_notN pins s σ H _ _ v u Q I rx ry ⟨rfl, p.val m (.bl _)⟩
  · rename_i h1 h2
    cases he
    refine op_notN pins s σ H _ _ v u Q I rx ry ⟨rfl, ?_⟩
    rw [decide_eq_false (fun z => h1 (by subst z; exact rep_non hd))]
    exact p.val m (.bl _)
def coPy : CO → CmpOp
  | .eq => .Eq | .ne => .NotEq | .lt => .Lt | .le => .LtE | .gt => .Gt | .ge => .GtE | .isin => .In | .nin => .NotIn | .is => .Is | .isn => .IsNot
theorem op_cM (hK : Z.K = X.K) (hu : X.A.units + 64 < cLine) (o : CO) : OpR X (compareOp (coPy o)) (rC Z o) := by
  cases o
  · exact op_eqM hK hu
  · exact op_neM hK hu
  · exact op_ltM hK
  · exact op_leM hK
  · exact op_gtM hK
  · exact op_geM hK
  · exact op_inM hK hu
  · exact op_ninM hK hu
  · exact op_isM hK
  · exact op_isnM hK
def boPy : BO → Operator
  | .add => .Add | .sub => .Sub | .mul => .Mult | .fdiv => .FloorDiv | .mod => .Mod | .pow => .Pow
theorem op_bM (hK : Z.K = X.K) (o : BO) : OpR X (binaryOp (boPy o)) (rM2 Z (binM o)) := by
  cases o
  · exact op_addM hK
  · exact op_subM hK
  · exact op_mulM hK
  · exact op_fdivM hK
  · exact op_modM hK
  · exact op_powM hK
/-! ### truth -/
theorem tru_rep (hK : Z.K = X.K) (m : MuOk Z ρ H μ) (r : Rep Z ρ H d v) {b : Bool} (h : truth μ d = some b) : TruV X.K v H b := by
  have sq : ∀ {ds : List D}, seqOf μ d = some ds → b = !ds.isEmpty → TruV X.K v H b := fun {ds} q e => by
    obtain ⟨a, xs, rfl, hs, rs⟩ := seqOf_rep m r q
    have e2 : (!ds.isEmpty) = !xs.isEmpty := by cases rs <;> rfl
    rcases hs with hs | hs
    · exact .inl ⟨xs, hK ▸ hs, by rw [e, e2]⟩
    · exact .inr (.inl ⟨xs, hK ▸ hs, by rw [e, e2]⟩)
  unfold truth at h
  split at h
  · cases r; exact (Option.some.inj h).symm
  · cases r; exact (Option.some.inj h).symm
  · cases r; exact (Option.some.inj h).symm
  · split at h
    · cases r
      refine ⟨by rw [mkS_len]; exact line_le ‹_›, ?_⟩
      rw [← Option.some.inj h, mkS_len]
      rename_i s _
      cases s with
      | nil => rfl
      | cons c s =>
        show true = _
        symm
        rw [bne_iff_ne]
        simp only [List.length_cons]
        omega
    · cases h
  · cases hs : seqOf μ d with
    | none => rw [hs] at h; cases h
    | some ds =>
      rw [hs] at h
      exact sq hs (Option.some.inj h).symm
/-! ### subscripts, slices -/
theorem atD_rep {ds : List D} {xs : List V} (r : Reps Z ρ H ds xs) {i : Int} (h : atD ds i = some d) : ∃ v, atI xs i = some v ∧ Rep Z ρ H d v := by
  unfold atD at h
  unfold atI
  rw [← r.length]
  cases e : ixN ds.length i with
  | none =>
    have e' : ixD ds.length i = none := e
    rw [e'] at h; cases h
  | some j =>
    have e' : ixD ds.length i = some j := e
    rw [e'] at h
    obtain ⟨v, h1, h2⟩ := r.get (i := j) h
    exact ⟨v, h1, h2⟩
theorem ix_M (hK : Z.K = X.K) (hu : X.A.units + 64 < cLine) : IxR X (rM2 Z subM) := by
  intro value slice pins s σ H x y v u Q I rx ry h hs
  obtain ⟨ρ, μ, d, e, m, hd, he, p⟩ := h
  unfold subM at p
  split at p
  · split at p
    · rename_i t i hl
      cases hd; cases he
      cases hc : atD t i with
      | none => rw [hc] at p; exact p.elim
      | some c =>
        rw [hc] at p
        refine ix_str value slice pins s σ H _ _ v u Q I rx ry ⟨mkS t, i, c, rfl, rfl, by rw [mkS_len]; exact line_le hl, by rw [tl_mkS]; exact hc, ?_⟩ hs
        exact p.val m (.str [c])
    · exact p.elim
  · split at p
    · rename_i ks vs hdic
      split at p
      · rename_i hk
        obtain ⟨a, kvs, rfl, rd, rfl, rv⟩ := dicOf_rep m hd hdic
        obtain ⟨k, rfl, hkv⟩ := keyD_of e hk
        obtain rfl := hkv he
        cases hg : getK (keyD k) (kvs.map fun p => keyD p.1) vs with
        | none => rw [hg] at p; exact p.elim
        | some w =>
          rw [hg] at p
          obtain ⟨wv, h1, h2⟩ := (getK_val k rv).1 w hg
          cases rx
          have g : DGet H a (kV k) (some wv) := .inl ⟨kvs, k, rd, rfl, h1.symm⟩
          exact tail_any (dict_typeIs I g) PySem.F.slot_dict_getitem.lookup (d_getItem (by omega) I g ry fun w' s3 I3 rw' => ⟨wv, H, I3, rw', p.val m h2⟩) hs
      · exact p.elim
    · split at p
      · cases he
        generalize hc : atD _ _ = oc at p
        cases oc with
        | none => exact p.elim
        | some c =>
          obtain ⟨a, vs, rfl, sq, rv⟩ := seqOf_rep m hd ‹seqOf μ d = some _›
          obtain ⟨w, h1, h2⟩ := atD_rep rv hc
          rcases sq with sq | sq
          · exact ix_list value slice pins s σ H _ _ v u Q I rx ry ⟨a, vs, _, w, rfl, rfl, hK ▸ sq, h1, p.val m h2⟩ hs
          · exact ix_tup value slice pins s σ H _ _ v u Q I rx ry ⟨a, vs, _, w, rfl, rfl, hK ▸ sq, h1, p.val m h2⟩ hs
      · exact p.elim
theorem reps_cut {ds : List D} {xs : List V} (r : Reps Z ρ H ds xs) (lo hi : Option Int) : Reps Z ρ H (cutL ds lo hi) (cutV xs lo hi) := by
  unfold cutL cutV
  rw [← r.length]
  exact (r.drop _).take _
def rMs (Z : Zx) : V → Option Int → Option Int → Hp → VK → Prop := fun x lo hi H Q => ∃ ρ μ d, MuOk Z ρ H μ ∧ Rep Z ρ H d x ∧ PV Z ρ H μ Q (slcM μ d lo hi)
theorem sl_M (hK : Z.K = X.K) : SlR X (rMs Z) := by
  intro pins s σ H x v vl vu lo hi sl Q I rx hs pl pu h
  obtain ⟨ρ, μ, d, m, hd, p⟩ := h
  have key : ∀ ds, view μ d = .lst ds → PV Z ρ H μ Q (some (.lst (cutL ds lo hi))) → ∃ T id, typeLookup (.type T) "__getitem__" = pure (some (.builtin id)) ∧ s.TypeIs v T ∧ wpAny (model X.prog X.w) X.A (getItem v (.ref sl)) (EP X pins σ Q) X.xe s := fun ds e p => by
    have hl : lstOf μ d = some ds := by unfold lstOf; rw [e]
    obtain ⟨a, xs, rfl, ha, ra⟩ := lstOf_rep m hd hl
    exact sl_list pins s σ H _ v vl vu lo hi sl Q I rx hs pl pu ⟨a, xs, rfl, .of ha, p.lst m (reps_cut ra lo hi)⟩
  unfold slcM at p
  split at p
  · rename_i t e
    rcases view_rep m hd with e1 | ⟨ds, a, xs, e1, _⟩
    · rw [e1] at e
      subst e
      split at p
      · cases hd
        refine sl_str pins s σ H _ v vl vu lo hi sl Q I rx hs pl pu ⟨mkS t, rfl, by rw [mkS_len]; exact line_le ‹_›, ?_⟩
        have e2 : cutS (mkS t) lo hi = mkS (cutL t lo hi) := by
          unfold cutS cutL
          rw [mkS_len, tl_mkS] <;> rfl
        rw [e2]
        exact p.val m (.str _)
      · exact p.elim
    · rw [e1] at e; cases e
  · exact key _ ‹_› p
  · rename_i ds e
    rcases view_rep m hd with e1 | ⟨ds, a, xs, e1, _⟩
    · rw [e1] at e
      subst e
      cases hd with
      | @tup k a xs _ h1 _ r =>
        refine sl_tupA pins s σ H _ v vl vu lo hi sl Q I rx hs pl pu ⟨a, xs, rfl, hK ▸ kt_sq h1, fun hw => ?_, fun _ => p.tup m (reps_cut r lo hi)⟩
        refine p.val m (.tup h1 (fun z => by cases z) ?_)
        have e3 : cutL ds lo hi = ds := by
          unfold cutL
          have h2 : clip ds.length 0 lo = 0 := by rw [r.length]; exact hw.1
          have h3 : clip ds.length ds.length hi = ds.length := by rw [r.length]; exact hw.2
          rw [h2, h3]; simp
        rw [e3]
        exact r
    · rw [e1] at e; cases e
  · rename_i ns e
    rcases view_rep m hd with e1 | ⟨ds, a, xs, e1, _⟩
    · rw [e1] at e
      subst e
      cases hd with
      | @scr a _ h1 =>
        refine sl_list pins s σ H _ v vl vu lo hi sl Q I rx hs pl pu ⟨a, ns.map V.int, rfl, hK ▸ kl_sq h1, ?_⟩
        have e3 : cutV (ns.map V.int) lo hi = (cutL ns lo hi).map V.int := by
          unfold cutV cutL
          rw [List.length_map, List.map_take, List.map_drop] <;> rfl
        rw [e3]
        exact p.lst m (reps_of_ints _)
    · rw [e1] at e; cases e
  · exact p.elim
end
end Mi
set_option Elab.async false
set_option linter.all false
set_option maxRecDepth 100000
set_option maxHeartbeats 4000000
/-! Mq: what is wanted of a run; built-ins and methods by values. -/
namespace Mi
open PySem PySem.Spec PyProof.Rows L2
def Pst {α : Type} (Z : Zx) (ρ : List Addr) (H : Hp) (Qf : α → List Addr → Hp → Mu → Prop) (Ef : Nat → List Addr → Hp → Mu → Prop) : R α → Prop
  | .ok a μ => ∀ ρ' H', Ext ρ H ρ' H' → MuOk Z ρ' H' μ → Qf a ρ' H' μ
  | .exc c μ => ∀ ρ' H', Ext ρ H ρ' H' → MuOk Z ρ' H' μ → Ef c ρ' H' μ
  | .no => False
/-- of a value -/
def QD (Z : Zx) (Q : VK) : D → List Addr → Hp → Mu → Prop := fun d ρ H _ => ∀ v, Rep Z ρ H d v → Q v H
section
variable {α β : Type} {Z : Zx} {ρ ρ' : List Addr} {H H' : Hp} {μ : Mu} {Qf Qf' : α → List Addr → Hp → Mu → Prop} {Qg : β → List Addr → Hp → Mu → Prop} {Ef Ef' : Nat → List Addr → Hp → Mu → Prop} {r : R α} {d : D} {v : V} {Q : VK} {X : Cx}
theorem Pst.at_ (p : Pst Z ρ H Qf Ef r) (x : Ext ρ H ρ' H') : Pst Z ρ' H' Qf Ef r := by
  cases r with
  | ok a μ => exact fun ρ2 H2 x2 m2 => p ρ2 H2 (x.trans x2) m2
  | exc c μ => exact fun ρ2 H2 x2 m2 => p ρ2 H2 (x.trans x2) m2
  | no => exact p
theorem Pst.mono (p : Pst Z ρ H Qf Ef r) (hq : ∀ a ρ' H' μ, Ext ρ H ρ' H' → MuOk Z ρ' H' μ → Qf a ρ' H' μ → Qf' a ρ' H' μ) (he : ∀ c ρ' H' μ, Ext ρ H ρ' H' → MuOk Z ρ' H' μ → Ef c ρ' H' μ → Ef' c ρ' H' μ) : Pst Z ρ H Qf' Ef' r := by
  cases r with
  | ok a μ => exact fun ρ2 H2 x2 m2 => hq _ _ _ _ x2 m2 (p ρ2 H2 x2 m2)
  | exc c μ => exact fun ρ2 H2 x2 m2 => he _ _ _ _ x2 m2 (p ρ2 H2 x2 m2)
  | no => exact p
theorem Pst.bnd {f : α → Mu → R β} (p : Pst Z ρ H Qg Ef (r.bnd f)) : Pst Z ρ H (fun a ρ' H' μ => Pst Z ρ' H' Qg Ef (f a μ)) Ef r := by
  cases r with
  | ok a μ => exact fun ρ2 H2 x2 m2 => p.at_ x2
  | exc c μ => exact p
  | no => exact p
theorem Pst.ok {a : α} (p : Pst Z ρ H Qf Ef (.ok a μ)) (m : MuOk Z ρ H μ) : Qf a ρ H μ := p ρ H (.refl _ _) m
theorem Pst.val (p : Pst Z ρ H (QD Z Q) Ef (.ok d μ)) (m : MuOk Z ρ H μ) (h : Rep Z ρ H d v) : Q v H := p.ok m v h
theorem Pst.opt_ {o : Option D} (p : Pst Z ρ H (QD Z Q) Ef (opt o μ)) : PV Z ρ H μ Q o := by
  cases o with
  | none => exact p
  | some d => exact fun ρ' H' v x m r => p ρ' H' x m v r
theorem Pst.opt_some {o : Option α} (p : Pst Z ρ H Qf Ef (opt o μ)) (m : MuOk Z ρ H μ) : ∃ a, o = some a ∧ Qf a ρ H μ := by
  cases o with
  | none => exact p.elim
  | some a => exact ⟨a, rfl, p.ok m⟩
/-- a new list at p, a tree or a cell -/
theorem Pst.fresh_lst {c : Bool} {ds : List D} {xs : List V} (p : Pst Z ρ H (QD Z Q) Ef (fresh c (.lst ds) μ)) (m : MuOk Z ρ H μ) (r : Reps Z ρ H ds xs) : ∀ a, H a = none → Q (.ref a) (upd H a (.lst xs)) := fun a ha => by
  cases c with
  | false =>
    have x := Ext.new1 (o := .lst xs) ρ ha
    obtain ⟨m1, o1⟩ := m.new1 (o := .lst xs) ha
    exact p ρ _ x m1 _ (.lst upd_same o1 (r.ext x))
  | true =>
    have x := Ext.newC (o := .lst xs) ρ ha
    refine p _ _ x (m.newC ha ⟨xs, upd_same, r.ext x⟩) _ (.ref ?_)
    rw [← m.len, List.getElem?_append_right (Nat.le_refl _)]
    simp
theorem Pst.fresh_dic {c : Bool} {ks vs : List D} {kvs : List (L2.Key × V)} (p : Pst Z ρ H (QD Z Q) Ef (fresh c (.dic ks vs) μ)) (m : MuOk Z ρ H μ) (hk : ks = kvs.map fun p => keyD p.1) (r : Reps Z ρ H vs (kvs.map (·.2))) :
    ∀ a, H a = none → Q (.ref a) (upd H a (.dK kvs)) := fun a ha => by
  subst hk
  cases c with
  | false =>
    have x := Ext.new1 (o := .dK kvs) ρ ha
    obtain ⟨m1, o1⟩ := m.new1 (o := .dK kvs) ha
    exact p ρ _ x m1 _ (.dic (.inl upd_same) o1 (r.ext x))
  | true =>
    have x := Ext.newC (o := .dK kvs) ρ ha
    refine p _ _ x (m.newC ha ⟨kvs, upd_same, rfl, r.ext x⟩) _ (.ref ?_)
    rw [← m.len, List.getElem?_append_right (Nat.le_refl _)]
    simp
/-! ### built-ins -/
theorem reps1 {xs : List V} (r : Reps Z ρ H [d] xs) : ∃ v, xs = [v] ∧ Rep Z ρ H d v := by
  cases r with
  | cons a r => cases r; exact ⟨_, rfl, a⟩
theorem reps2 {e : D} {xs : List V} (r : Reps Z ρ H [d, e] xs) : ∃ v u, xs = [v, u] ∧ Rep Z ρ H d v ∧ Rep Z ρ H e u := by
  cases r with
  | cons a r =>
    obtain ⟨u, rfl, b⟩ := reps1 r
    exact ⟨_, _, rfl, a, b⟩
theorem bl_lenM (hK : Z.K = X.K) : CallR X (.builtin "len") (rMn Z (bltM .len)) := by
  intro pins s σ H xs us Q I rs h
  obtain ⟨ρ, μ, ds, m, hd, p⟩ := h
  simp only [bltM] at p
  split at p <;> try (exact p.elim)
  · obtain ⟨v, rfl, r⟩ := reps1 hd
    split at p
    · cases r
      refine call_len_str pins s σ H _ us Q I rs ⟨_, rfl, by rw [mkS_len]; exact line_le ‹_›, ?_⟩
      rw [mkS_len]
      exact p.val m (.int _)
    · exact p.elim
  · obtain ⟨v, rfl, r⟩ := reps1 hd
    split at p
    · rename_i ks vs hq
      obtain ⟨a, kvs, rfl, rd, rfl, rv⟩ := dicOf_rep m r hq
      obtain ⟨u, rfl, ru⟩ := vals1 rs
      cases ru
      refine d_len I rd fun t s' I' => ⟨.int kvs.length, H, I', ⟨t, rfl⟩, ?_⟩
      rw [List.length_map] at p
      exact p.val m (.int _)
    · generalize hq : seqOf μ _ = o at p
      cases o with
      | none => exact p.elim
      | some ds =>
        obtain ⟨a, xs, rfl, sq, rv⟩ := seqOf_rep m r hq
        refine call_len_seq pins s σ H _ us Q I rs ⟨a, xs, rfl, hK ▸ sq, ?_⟩
        rw [← rv.length]
        exact p.val m (.int _)
theorem bl_absM : CallR X (.builtin "abs") (rMn Z (bltM .abs)) := by
  intro pins s σ H xs us Q I rs h
  obtain ⟨ρ, μ, ds, m, hd, p⟩ := h
  simp only [bltM] at p
  split at p <;> try (exact p.elim)
  obtain ⟨v, rfl, r⟩ := reps1 hd
  cases r
  exact call_abs pins s σ H _ us Q I rs ⟨_, rfl, p.val m (.int _)⟩
theorem bl_intM : CallR X (.type "int") (rMn Z (bltM .int)) := by
  intro pins s σ H xs us Q I rs h
  obtain ⟨ρ, μ, ds, m, hd, p⟩ := h
  simp only [bltM] at p
  split at p <;> try (exact p.elim)
  · obtain ⟨v, rfl, r⟩ := reps1 hd
    cases r
    exact call_int1 pins s σ H _ us Q I rs (.inl ⟨_, rfl, p.val m (.int _)⟩)
  · obtain ⟨v, rfl, r⟩ := reps1 hd
    cases r
    exact call_int1 pins s σ H _ us Q I rs (.inr ⟨_, rfl, p.val m (.int _)⟩)
theorem ints_of {o : Option (List D)} {ns : List Int} (h : o.bind toInts = some ns) : ∃ ds, o = some ds ∧ toInts ds = some ns := by
  cases o with
  | none => cases h
  | some ds => exact ⟨ds, rfl, h⟩
theorem ints_rep (m : MuOk Z ρ H μ) (r : Rep Z ρ H d v) {ns : List Int} (h : (lstOf μ d).bind toInts = some ns) : ∃ a, v = .ref a ∧ SqL Z.K H a (ns.map V.int) := by
  obtain ⟨ds, h1, h2⟩ := ints_of h
  obtain ⟨a, xs, rfl, ha, ra⟩ := lstOf_rep m r h1
  refine ⟨a, rfl, .of ?_⟩
  rw [ha, reps_ints ra h2]
theorem bl_sumM (hK : Z.K = X.K) (hc : X.calm = true) : CallR X (.builtin "sum") (rMn Z (bltM .sum)) := by
  intro pins s σ H xs us Q I rs h
  obtain ⟨ρ, μ, ds, m, hd, p⟩ := h
  simp only [bltM] at p
  split at p <;> try (exact p.elim)
  obtain ⟨v, rfl, r⟩ := reps1 hd
  generalize hq : (lstOf μ _).bind toInts = o at p
  cases o with
  | none => exact p.elim
  | some ns =>
    obtain ⟨a, rfl, sq⟩ := ints_rep m r hq
    exact cr_sum hc pins s σ H _ us Q I rs ⟨a, ns, rfl, hK ▸ sq, p.val m (.int _)⟩
theorem maxI_mem : ∀ (ns : List Int) (n : Int), maxI n ns ∈ n :: ns ∧ ∀ y ∈ n :: ns, y ≤ maxI n ns
  | [], n => ⟨List.mem_cons_self, fun y hy => by simp at hy; subst hy; exact Int.le_refl _⟩
  | x :: r, n => by
    have ih := maxI_mem r (if x > n then x else n)
    refine ⟨?_, fun y hy => ?_⟩
    · rcases List.mem_cons.mp ih.1 with h | h
      · rw [maxI, h]
        split <;> simp
      · rw [maxI]; exact List.mem_cons_of_mem _ (List.mem_cons_of_mem _ h)
    · rw [maxI]
      have h0 := ih.2 _ List.mem_cons_self
      rcases List.mem_cons.mp hy with h | h
      · rw [h]
        by_cases q : x > n
        · rw [if_pos q] at h0 ⊢; omega
        · rw [if_neg q] at h0 ⊢; omega
      · rcases List.mem_cons.mp h with h | h
        · rw [h]
          by_cases q : x > n
          · rw [if_pos q] at h0 ⊢; omega
          · rw [if_neg q] at h0 ⊢; omega
        · exact ih.2 y (List.mem_cons_of_mem _ h)
theorem minI_mem : ∀ (ns : List Int) (n : Int), minI n ns ∈ n :: ns ∧ ∀ y ∈ n :: ns, minI n ns ≤ y
  | [], n => ⟨List.mem_cons_self, fun y hy => by simp at hy; subst hy; exact Int.le_refl _⟩
  | x :: r, n => by
    have ih := minI_mem r (if x < n then x else n)
    refine ⟨?_, fun y hy => ?_⟩
    · rcases List.mem_cons.mp ih.1 with h | h
      · rw [minI, h]
        split <;> simp
      · rw [minI]; exact List.mem_cons_of_mem _ (List.mem_cons_of_mem _ h)
    · rw [minI]
      have h0 := ih.2 _ List.mem_cons_self
      rcases List.mem_cons.mp hy with h | h
      · rw [h]
        by_cases q : x < n
        · rw [if_pos q] at h0 ⊢; omega
        · rw [if_neg q] at h0 ⊢; omega
      · rcases List.mem_cons.mp h with h | h
        · rw [h]
          by_cases q : x < n
          · rw [if_pos q] at h0 ⊢; omega
          · rw [if_neg q] at h0 ⊢; omega
        · exact ih.2 y (List.mem_cons_of_mem _ h)
theorem bl_maxM (hK : Z.K = X.K) (hc : X.calm = true) : CallR X (.builtin "max") (rMn Z (bltM .max)) := by
  intro pins s σ H xs us Q I rs h
  obtain ⟨ρ, μ, ds, m, hd, p⟩ := h
  simp only [bltM] at p
  split at p <;> try (exact p.elim)
  · obtain ⟨v, u, rfl, r1, r2⟩ := reps2 hd
    cases r1; cases r2
    exact call_max2 hc pins s σ H _ us Q I rs ⟨_, _, rfl, p.val m (.int _)⟩
  · obtain ⟨v, rfl, r⟩ := reps1 hd
    generalize hq : (lstOf μ _).bind toInts = o at p
    split at p <;> try (exact p.elim)
    rename_i n ns
    obtain ⟨a, rfl, sq⟩ := ints_rep m r hq
    refine cr_max hc pins s σ H _ us Q I rs ⟨a, _, rfl, hK ▸ sq, by simp, fun k h1 h2 => ?_⟩
    have z := maxI_mem ns n
    have e : k = maxI n ns := Int.le_antisymm (z.2 k h1) (h2 _ z.1)
    rw [e]
    exact p.val m (.int _)
theorem bl_minM (hK : Z.K = X.K) (hc : X.calm = true) : CallR X (.builtin "min") (rMn Z (bltM .min)) := by
  intro pins s σ H xs us Q I rs h
  obtain ⟨ρ, μ, ds, m, hd, p⟩ := h
  simp only [bltM] at p
  split at p <;> try (exact p.elim)
  · obtain ⟨v, u, rfl, r1, r2⟩ := reps2 hd
    cases r1; cases r2
    exact call_min2 hc pins s σ H _ us Q I rs ⟨_, _, rfl, p.val m (.int _)⟩
  · obtain ⟨v, rfl, r⟩ := reps1 hd
    generalize hq : (lstOf μ _).bind toInts = o at p
    split at p <;> try (exact p.elim)
    rename_i n ns
    obtain ⟨a, rfl, sq⟩ := ints_rep m r hq
    refine cr_min hc pins s σ H _ us Q I rs ⟨a, _, rfl, hK ▸ sq, by simp, fun k h1 h2 => ?_⟩
    have z := minI_mem ns n
    have e : k = minI n ns := Int.le_antisymm (h2 _ z.1) (z.2 k h1)
    rw [e]
    exact p.val m (.int _)
theorem insI_perm (x : Int) : ∀ l, (insI x l).Perm (x :: l)
  | [] => .refl _
  | y :: r => by
    unfold insI
    split
    · exact .refl _
    · exact ((insI_perm x r).cons y).trans (.swap x y r)
theorem sortI_perm : ∀ l, (sortI l).Perm l
  | [] => .refl _
  | x :: r => (insI_perm x _).trans ((sortI_perm r).cons x)
theorem insI_sorted (x : Int) : ∀ l : List Int, l.Pairwise (· ≤ ·) → (insI x l).Pairwise (· ≤ ·)
  | [], _ => by simp [insI]
  | y :: r, h => by
    unfold insI
    rw [List.pairwise_cons] at h
    split
    · rename_i q
      refine List.pairwise_cons.mpr ⟨fun z hz => ?_, List.pairwise_cons.mpr h⟩
      rcases List.mem_cons.mp hz with e | e
      · rw [e]; exact q
      · exact Int.le_trans q (h.1 z e)
    · rename_i q
      refine List.pairwise_cons.mpr ⟨fun z hz => ?_, insI_sorted x r h.2⟩
      rcases List.mem_cons.mp ((insI_perm x r).mem_iff.mp hz) with e | e
      · rw [e]; omega
      · exact h.1 z e
theorem sortI_sorted : ∀ l, (sortI l).Pairwise (· ≤ ·)
  | [] => .nil
  | x :: r => insI_sorted x _ (sortI_sorted r)
/-- what collect makes of a list, of a tuple -/
theorem colAny {prog : Program} {w : World} {A : Around} {E : Value → Shared → Prop} {s : Shared} {c : Addr} {ys : List Value} {T : String} {G : List Value → Shared → Prop} (hT : T = "list" ∨ T = "tuple") {ob : Obj} (e1 : s.heap.get? c = some ob) (e2 : ob.cls = .type T) {k : Nat} (e3 : ob.data = .seq ys.toArray k)
    (hz : ys.length ≤ sizeLine) (g : G ys { s with heap := (s.heap.push (seqObj "list" #[] 0)).update s.heap.objs.size (Obj.mapSeq (· ++ ys.toArray)) }) : wpAny (model prog w) A (collect (.ref c)) G E s := by
  have hne : c ≠ s.heap.objs.size := Nat.ne_of_lt (Heap.lt_size e1)
  have f1 : (s.heap.push (seqObj "list" #[] 0)).get? c = some ob := Heap.get?_push_of_some _ e1
  have f2 : (s.heap.push (seqObj "list" #[] 0)).get? s.heap.objs.size = some (seqObj "list" #[] 0) := Heap.get?_push_size _ rfl
  unfold collect
  apply wpAny_bind
  apply wpAny_runValue
  apply codeAny_builtin entry_proto_collect'
  show wpAny (model prog w) _ (newList [] >>= fun v => again (.builtin "list.__iadd__" ⟨[v, .ref c], []⟩)) _ _ s
  apply wpAny_bind
  refine wpAny_newList ?_ (Nat.zero_le _)
  refine wpAny_pure ⟨Code.quiet_builtin _ (by decide +kernel), ?_⟩
  apply codeAny_builtin entry_list_iadd'
  show wpAny (model prog w) _ (Builtin.List.listExtendWith (.ref s.heap.objs.size) (.ref c) (.ref s.heap.objs.size)) _ _ { s with heap := s.heap.push (seqObj "list" #[] 0) }
  unfold Builtin.List.listExtendWith
  apply wpAny_bind
  refine wpAny_typeOf (T := T) ⟨ob, f1, e2⟩ ?_
  have cond : (Builtin.List.listSameRef (Value.ref s.heap.objs.size) (.ref c) || Value.type T == .type "list" || Value.type T == .type "tuple") = true := by
    rcases hT with rfl | rfl
    · have : (Value.type "list" == Value.type "list") = true := by rfl
      rw [this]; simp
    · have : (Value.type "tuple" == Value.type "tuple") = true := by rfl
      rw [this]; simp
  rw [if_pos cond]
  apply wpAny_bind
  apply listItems_at f1 e3
  apply wpAny_bind
  apply listItems_at f2 rfl
  rw [if_neg (by simp)]
  apply wpAny_bind
  refine listUpdate_at f2 rfl ?_ (Nat.zero_le _) (by show (#[] ++ ys.toArray).size ≤ _; rw [Array.empty_append, List.size_toArray]; omega)
  apply wpAny_pure
  have f3 := get?_update_seq (h := s.heap.push (seqObj "list" #[] 0)) f2 (· ++ ys.toArray)
  show wpAny (model prog w) A (load s.heap.objs.size >>= fun o => match o.data with
    | .seq xs _ => pure xs.toList
    | _ => unsupported "internal:collect") G E { s with heap := (s.heap.push (seqObj "list" #[] 0)).update s.heap.objs.size (Obj.mapSeq (· ++ ys.toArray)) }
  apply wpAny_bind
  refine wpAny_load f3 ?_
  have ez : ((#[] : Array Value) ++ ys.toArray).toList = ys := by simp
  show wpAny (model prog w) A (pure ((#[] : Array Value) ++ ys.toArray).toList) G E _
  rw [ez]
  exact wpAny_pure g
/-- sorted of ints that stand in a list, a tuple -/
theorem sortAny {prog : Program} {w : World} {A : Around} {E : Value → Shared → Prop} {s : Shared} {c : Addr} {ys : List Value} {ns : List Int} {T : String} {G : Value → Shared → Prop} (hT : T = "list" ∨ T = "tuple") {ob : Obj} (e1 : s.heap.get? c = some ob) (e2 : ob.cls = .type T) {k : Nat} (e3 : ob.data = .seq ys.toArray k)
    (hI : IntsAre ys ns) (h64 : ys.length < 64) (g : ∀ (out : Array Value) (ms : List Int), IntsAre out.toList ms → ms.Perm ns → ms.Pairwise (· ≤ ·) → G (.ref (s.heap.objs.size + 1)) { s with heap := sortedAll s.heap ys out }) :
    wpAny (model prog w) A (call (.builtin "sorted") [.ref c]) G E s := by
  have hz : ys.length ≤ sizeLine := small64 h64
  apply Calls.call_function_entry kind_sorted plain_sorted entry_sorted (args_sorted1 _)
  unfold Builtin.«sorted»
  apply wpAny_bind (m := checkCount "sorted" 1 1 _)
  apply wpAny_pure
  apply wpAny_bind
  refine colAny hT e1 e2 e3 hz ?_
  apply wpAny_bind
  refine wpAny_newList ?_ hz
  have n1 : ((s.heap.push (seqObj "list" #[] 0)).update s.heap.objs.size (Obj.mapSeq (· ++ ys.toArray))).objs.size = s.heap.objs.size + 1 := by
    rw [Heap.size_update, size_push']
  have f4 : (((s.heap.push (seqObj "list" #[] 0)).update s.heap.objs.size (Obj.mapSeq (· ++ ys.toArray))).push (seqObj "list" ys.toArray 0)).get? (s.heap.objs.size + 1) = some (seqObj "list" ys.toArray 0) := by
    rw [← n1]
    exact Heap.get?_push_size _ rfl
  show wpAny (model prog w) _ _ _ _ { s with heap := ((s.heap.push (seqObj "list" #[] 0)).update s.heap.objs.size (Obj.mapSeq (· ++ ys.toArray))).push (seqObj "list" ys.toArray 0) }
  rw [n1]
  apply wpAny_bind
  apply wpAny_holding
  refine wpAny_call_entry slot_list_sort ⟨_, f4, rfl⟩ entry_list_sort ?_ (args_list_sort _)
  refine list_sort_tree f4 hI h64 fun out ms a1 a2 a3 => ⟨_, rfl, ?_⟩
  exact wpAny_pure ⟨_, rfl, g out ms a1 a2 a3⟩
theorem bl_sortedM (hK : Z.K = X.K) : CallR X (.builtin "sorted") (rMn Z (bltM .sorted)) := by
  intro pins s σ H xs us Q I rs h
  obtain ⟨ρ, μ, ds, m, hd, p⟩ := h
  simp only [bltM] at p
  split at p <;> try (exact p.elim)
  obtain ⟨v, rfl, r⟩ := reps1 hd
  generalize hq : (seqOf μ _).bind toInts = o at p
  cases o with
  | none => exact p.elim
  | some ns =>
    simp only at p
    split at p
    · rename_i h64
      obtain ⟨ds, h1, h2⟩ := ints_of hq
      obtain ⟨a, xs, rfl, sq, rv⟩ := seqOf_rep m r h1
      have ex : xs = ns.map V.int := reps_ints rv h2
      subst ex
      obtain ⟨u, rfl, ru⟩ := vals1 rs
      cases ru
      have key : ∀ (its : List Value) (T : String) (ob : Obj) (k : Nat), (T = "list" ∨ T = "tuple") → Vals (ns.map V.int) its → s.heap.get? a = some ob → ob.cls = .type T → ob.data = .seq its.toArray k → wpAny (model X.prog X.w) X.A (call (.builtin "sorted") [.ref a]) (EP X pins σ Q) X.xe s := fun its T ob k hT rv2 e1 e2 e3 => by
        have hi := rv2.ints
        refine sortAny hT e1 e2 e3 hi (by rw [hi.length]; exact h64) fun out ms a1 a2 a3 => ?_
        obtain ⟨ep, he⟩ := PyProof.Rows.sortedAll_at s.heap its out
        have hlen : (ms.map V.int).length ≤ sizeLine := by rw [List.length_map, a2.length_eq]; exact small64 h64
        have e : ms = sortI ns := List.Perm.eq_of_pairwise (fun a b _ _ h1 h2 => Int.le_antisymm h1 h2) a3 (sortI_sorted ns) (a2.trans (sortI_perm ns).symm)
        refine ⟨.ref _, upd H (s.heap.objs.size + 1) (.lst (ms.map V.int)), I.laid (t' := s.toks) (fun _ _ => PyProof.Rows.sortedAll_old) (Nat.le_succ _) ⟨hlen, out.toList, ep, vals_of_ints a1, he⟩, rfl, ?_⟩
        have hf := I.hok.fresh (Nat.le_succ s.heap.objs.size)
        rw [e]
        exact p.lst m (reps_of_ints _) _ hf
      have sq : SqL X.K H a (ns.map V.int) ∨ SqT X.K H a (ns.map V.int) := by rw [← hK]; exact sq
      rcases sq with sq | sq
      · obtain ⟨its, rv2, hl, _⟩ := I.list sq
        obtain ⟨ob, e1, e2, k, e3⟩ := hl.isList
        exact key its "list" ob k (.inl rfl) rv2 e1 e2 e3
      · obtain ⟨its, rv2, ⟨ob, e1, e2, k, e3⟩, _⟩ := I.tuple sq
        exact key its "tuple" ob k (.inr rfl) rv2 e1 e2 e3
    · exact p.elim
/-- tuple(x): a list's is a known object -/
theorem call_tupleF (hK : Z.K = X.K) : CallR X (.type "tuple") (fun xs H Q => ∃ p ys, xs = [.ref p] ∧ ((SqL X.K H p ys ∧ ∀ l o, H l = none → o.dict = none → Q (.ref l) (upd H l (.frz o (.tup ys)))) ∨ (SqT X.K H p ys ∧ Q (.ref p) H))) := by
  intro pins s σ H xs us Q I r h
  obtain ⟨p, ys, rfl, h⟩ := h
  rcases h with ⟨hs, q⟩ | ⟨hs, q⟩
  · obtain ⟨u, rfl, rx⟩ := vals1 r
    cases rx
    obtain ⟨its, r', pl, hz⟩ := I.list hs
    have hlen := r'.length
    have hl : its.toArray.size ≤ sizeLine := by rw [List.size_toArray]; omega
    refine call_tuple_list pl.isList (fun h' kp => ?_) hl
    have I1 : Inv X pins σ H { s with heap := h' } := I.kept (t' := s.toks) kp
    have I2 : Inv X pins σ (upd H h'.objs.size (.frz { cls := .type "tuple", data := .seq its.toArray } (.tup ys))) { s with heap := h'.push { cls := .type "tuple", data := .seq its.toArray } } :=
      I1.laid (t' := s.toks) (fun b o e => Heap.get?_push_of_some _ e) (Nat.le_refl _) ⟨Heap.get?_push_size _ rfl, hz, its, r', IsTup.new _ _⟩
    exact ⟨.ref h'.objs.size, _, I2, rfl, q _ _ (I1.hok.fresh (Nat.le_refl _)) rfl⟩
  · exact call_tuple_of pins s σ H _ us Q I r ⟨p, ys, rfl, .inr ⟨hs, q⟩⟩
end
end Mi
set_option Elab.async false
set_option linter.all false
set_option maxRecDepth 100000
set_option maxHeartbeats 4000000
/-! Mm: methods by values; tuple, list. -/
namespace Mi
open PySem PySem.Spec PyProof.Rows L2
def rMm (Z : Zx) (m : MF) : V → List V → Hp → VK → Prop := fun x xs H Q => ∃ ρ μ d ds, MuOk Z ρ H μ ∧ Rep Z ρ H d x ∧ Reps Z ρ H ds xs ∧ PV Z ρ H μ Q (mthM m μ d ds)
section
variable {α β : Type} {Z : Zx} {ρ ρ' : List Addr} {H H' : Hp} {μ : Mu} {d : D} {v : V} {Q : VK} {X : Cx}
theorem reps0 {xs : List V} (r : Reps Z ρ H [] xs) : xs = [] := by cases r; rfl
theorem reps3 {e f : D} {xs : List V} (r : Reps Z ρ H [d, e, f] xs) : ∃ v u w, xs = [v, u, w] ∧ Rep Z ρ H d v ∧ Rep Z ρ H e u ∧ Rep Z ρ H f w := by
  cases r with
  | cons a r =>
    obtain ⟨u, w, rfl, b, c⟩ := reps2 r
    exact ⟨_, _, _, rfl, a, b, c⟩
theorem joinS_eq (s : T) : ∀ l : List T, Str.join (mkS s) (l.map mkS) = mkS (joinT s l)
  | [] => rfl
  | [x] => rfl
  | x :: y :: r => by
    have ih := joinS_eq s (y :: r)
    show mkS x ++ mkS s ++ Str.join (mkS s) ((y :: r).map mkS) = mkS (x ++ s ++ joinT s (y :: r))
    rw [ih, mkS_app, mkS_app]
theorem joinT_eq (s : T) (l : List T) : Txt.join (mkS s) (l.map mkS) = mkS (joinT s l) := (TL.join_eq _ _).trans (joinS_eq s l)
theorem sumL_eq : ∀ l : List T, ((l.map mkS).map (·.length)).sum = sumL l
  | [] => rfl
  | x :: r => by
    have ih := sumL_eq r
    simp only [List.map_cons, List.sum_cons, sumL] at ih ⊢
    rw [ih, mkS_len]
theorem mt_joinM (hK : Z.K = X.K) : MtR X "str.join" (rMm Z .join) := by
  intro pins s σ H x xs v us Q I rx rxs h
  obtain ⟨ρ, μ, d, ds, m, hd, hds, p⟩ := h
  simp only [mthM] at p
  split at p <;> try (exact p.elim)
  obtain ⟨y, rfl, ry⟩ := reps1 hds
  cases hd
  generalize hq : seqOf μ _ = o at p
  cases o with
  | none => exact p.elim
  | some es =>
    simp only [Option.bind_some] at p
    generalize hs : toStrs es = o at p
    cases o with
    | none => exact p.elim
    | some ss =>
      simp only at p
      split at p
      · rename_i hz
        obtain ⟨a, ys, rfl, sq, rv⟩ := seqOf_rep m ry hq
        rw [reps_strs rv hs, hK] at sq
        refine mt_join pins s σ H _ _ v us Q I rx rxs ⟨_, a, ss.map mkS, rfl, rfl, sq, ?_, ?_⟩
        · rw [sumL_eq, List.length_map, mkS_len]; exact hz
        · rw [joinT_eq]; exact p.val m (.str _)
      · exact p.elim
theorem lastOcc (s : T) (c lo hi : Nat) : Builtin.Str.lastOccurrence (mkS s) (mkS [c]) lo hi = (List.range' lo (hi + 1 - lo)).foldl (fun last p => if (decide (p + 1 ≤ hi) && s[p]? == some c) = true then some p else last) none := by
  have hsub : ∀ p, Builtin.Str.subAt (mkS s) (mkS [c]) p = (s[p]? == some c) := fun p => by
    show ((s.toArray.extract p (p + (mkS [c]).length)) == #[c]) = _
    rw [mkS_len]
    have e : s.toArray.extract p (p + 1) = ((s.drop p).take 1).toArray := by
      simp [List.extract_toArray, List.extract_eq_take_drop]
    show (s.toArray.extract p (p + 1) == #[c]) = _
    rw [e]
    have : ((s.drop p).take 1) = s[p]?.toList := by
      cases hd : s.drop p with
      | nil => 
        have : s.length ≤ p := List.drop_eq_nil_iff.mp hd
        simp [List.getElem?_eq_none this]
      | cons x r =>
        have : s[p]? = some x := by rw [← List.head?_drop, hd]; rfl
        simp [this]
    rw [this]
    cases s[p]? <;> simp
  unfold Builtin.Str.lastOccurrence
  simp only [Std.Legacy.Range.forIn_eq_forIn_range', Std.Legacy.Range.size, hsub, mkS_len, List.length_singleton]
  have fo : ∀ (l : List Nat) (b : Option Nat), (forIn l b fun i __s => if (decide (i + 1 ≤ hi) && s[i]? == some c) = true then (pure (ForInStep.yield (some i)) : Id _) else pure (ForInStep.yield __s)) = pure (l.foldl (fun last p => if (decide (p + 1 ≤ hi) && s[p]? == some c) = true then some p else last) b) := by
    intro l
    induction l with
    | nil => intro b; rfl
    | cons i l ih =>
      intro b
      rw [List.forIn_cons, List.foldl_cons]
      split
      · simp only [pure_bind]; exact ih _
      · simp only [pure_bind]; exact ih _
  rw [fo]
  simp
theorem mt_rfindM : MtR X "str.rfind" (rMm Z .rfind) := by
  intro pins s σ H x xs v us Q I rx rxs h
  obtain ⟨ρ, μ, d, ds, m, hd, hds, p⟩ := h
  simp only [mthM] at p
  split at p <;> try (exact p.elim)
  rename_i t c lo hi
  split at p
  · rename_i hz
    simp only [Bool.and_eq_true, decide_eq_true_eq] at hz
    obtain ⟨_, _, _, rfl, r1, r2, r3⟩ := reps3 hds
    cases hd; cases r1; cases r2; cases r3
    refine mt_rfind4 pins s σ H _ _ v us Q I rx rxs ⟨_, _, lo, hi, rfl, rfl, ?_⟩
    have e : Txt.rfindIn (mkS t) (mkS [c]) lo hi = rfindC c lo.toNat (min hi.toNat t.length) t := by
      have e1 : fromIndex (mkS t).length lo = lo.toNat := by
        unfold fromIndex
        rw [if_neg (by omega)]; omega
      have e2 : toIndexW (mkS t).length hi = min hi.toNat t.length := by
        unfold toIndexW
        rw [if_neg (by omega), mkS_len]; omega
      unfold Txt.rfindIn rfindC
      rw [e1, e2, lastOcc]
      rfl
    rw [e]
    exact p.val m (.int _)
  · exact p.elim
/-! ### places -/
theorem indexD_at (x : D) : ∀ (ds : List D) (k n : Nat), indexD x k ds = some n → ∃ j y, n = k + j ∧ ds[j]? = some y ∧ eqv y x = true ∧ ∀ m z, m < j → ds[m]? = some z → eqv z x = false
  | [], _, _, h => by cases h
  | y :: r, k, n, h => by
    unfold indexD at h
    by_cases e : eqv y x = true
    · rw [if_pos e] at h
      cases h
      exact ⟨0, y, rfl, rfl, e, fun m z hm => absurd hm (Nat.not_lt_zero _)⟩
    · rw [if_neg e] at h
      obtain ⟨j, w, h1, h2, h3, h4⟩ := indexD_at x r (k + 1) n h
      refine ⟨j + 1, w, by omega, by simpa using h2, h3, fun m z hm hz => ?_⟩
      cases m with
      | zero => simp at hz; rw [← hz]; simpa using e
      | succ m => exact h4 m z (by omega) (by simpa using hz)
theorem reps_index {x : D} {xv : V} (rx : Rep Z ρ H x xv) (fx : flat x = true) {ds : List D} {xs : List V} (rs : Reps Z ρ H ds xs) (fs : ds.all flat = true) {n : Nat} (h : indexD x 0 ds = some n) :
    ∃ z : V, xs[n]? = some z ∧ eqV z xv = true ∧ ∀ (m : Nat) (z' : V), m < n → xs[m]? = some z' → eqV z' xv = false := by
  obtain ⟨j, y, h1, h2, h3, h4⟩ := indexD_at x ds 0 n h
  obtain rfl : n = j := by omega
  obtain ⟨z, hz, rz⟩ := rs.get h2
  have fy : flat y = true := List.all_eq_true.mp fs y (List.mem_of_getElem? h2)
  refine ⟨z, hz, by rw [flat_eq rz rx fy fx]; exact h3, fun m z' hm hz' => ?_⟩
  obtain ⟨w, hw, rw'⟩ := rs.get' hz'
  rw [flat_eq rw' rx (List.all_eq_true.mp fs w (List.mem_of_getElem? hw)) fx]
  exact h4 m w hm hw
theorem mt_lindexM (hK : Z.K = X.K) : MtR X "list.index" (fun x xs H Q => ∃ ρ μ d ds es, MuOk Z ρ H μ ∧ Rep Z ρ H d x ∧ view μ d = .lst es ∧ Reps Z ρ H ds xs ∧ PV Z ρ H μ Q (mthM .index μ d ds)) := by
  intro pins s σ H x xs v us Q I rx rxs h
  obtain ⟨ρ, μ, d, ds, es, m, hd, hv, hds, p⟩ := h
  simp only [mthM, hv] at p
  split at p <;> try (exact p.elim)
  split at p
  · rename_i hf
    simp only [Bool.and_eq_true] at hf
    obtain ⟨y, rfl, ry⟩ := reps1 hds
    have hl : lstOf μ d = some es := by unfold lstOf; rw [hv]
    obtain ⟨a, ys, rfl, ha, ra⟩ := lstOf_rep m hd hl
    generalize hi : indexD _ 0 es = o at p
    cases o with
    | none => exact p.elim
    | some n =>
      obtain ⟨z, h1, h2, h3⟩ := reps_index ry hf.1 ra hf.2 hi
      exact mt_index pins s σ H _ _ v us Q I rx rxs ⟨a, ys, y, n, z, rfl, rfl, .of ha, flat_rep ry hf.1, reps_flat ra hf.2, h1, h2, h3, p.val m (.int _)⟩
  · exact p.elim
theorem mt_tindexM (hK : Z.K = X.K) : MtR X "tuple.index" (fun x xs H Q => ∃ ρ μ es ds, MuOk Z ρ H μ ∧ Rep Z ρ H (.tup true es) x ∧ Reps Z ρ H ds xs ∧ PV Z ρ H μ Q (mthM .index μ (.tup true es) ds)) := by
  intro pins s σ H x xs v us Q I rx rxs h
  obtain ⟨ρ, μ, es, ds, m, hd, hds, p⟩ := h
  simp only [mthM, view] at p
  split at p <;> try (exact p.elim)
  split at p
  · rename_i hf
    simp only [Bool.and_eq_true] at hf
    obtain ⟨y, rfl, ry⟩ := reps1 hds
    cases hd
    rename_i a ys hq hn ra
    generalize hi : indexD _ 0 es = o at p
    cases o with
    | none => exact p.elim
    | some j =>
      obtain ⟨z, h1, h2, h3⟩ := reps_index ry hf.1 ra hf.2 hi
      cases rx
      obtain ⟨u, rfl, ru⟩ := vals1 rxs
      obtain ⟨its, r, pl, hz⟩ := I.tuple (hK ▸ kt_sq hq)
      obtain ⟨⟨cls, dd, dt, sl⟩, ho, hc, n, hd⟩ := pl
      simp only at hc hd
      subst hc
      subst hd
      have hl : its.toArray.size = ys.length := by rw [List.size_toArray, ← r.length]
      have fys := reps_flat ra hf.2
      have fy := flat_rep ry hf.1
      have hj : j < its.toArray.size := by rw [hl]; exact (List.getElem?_eq_some_iff.mp h1).1
      have at' : ∀ (m : Nat) (hm : m < its.toArray.size), ∃ y', ys[m]? = some y' ∧ RelV y' its.toArray[m] := fun m hm => by
        have hm' : m < ys.length := by rw [← hl]; exact hm
        obtain ⟨w, hw, rw'⟩ := r.get (i := m) (x := ys[m]) (List.getElem?_eq_getElem hm')
        refine ⟨ys[m], List.getElem?_eq_getElem hm', ?_⟩
        have e := (List.getElem?_eq_some_iff.mp hw).2
        have e1 : its.toArray[m] = w := by simpa using e
        rw [e1]; exact rw'
      refine call_meets PySem.F.slot_tuple_index ⟨_, ho, rfl⟩ PySem.F.entry_tuple_index (PySem.F.args_tuple_index_2 _ _) (TI.tuple_indexAt a its.toArray n dd sl u (eqU y) j hj ?_ ?_)
        ⟨ho, fun w hw => mem_eqAt ru fy r fys w (by simpa using hw), ⟨.int (j : Nat), H, I.tok _, ⟨_, rfl⟩, p.val m (.int _)⟩⟩
      · obtain ⟨y', e1, e2⟩ := at' j hj
        rw [h1] at e1
        cases e1
        rw [eqU_of e2 (flat_at fys h1)]
        exact h2
      · intro m hm hmj
        obtain ⟨y', e1, e2⟩ := at' m hm
        rw [eqU_of e2 (flat_at fys e1)]
        exact h3 m y' hmj e1
  · exact p.elim
theorem mt_getM (hu : X.A.units + 1 < cLine) : MtR X "dict.get" (rMm Z .get) := by
  intro pins s σ H x xs v us Q I rx rxs h
  obtain ⟨ρ, μ, d, ds, m, hd, hds, p⟩ := h
  simp only [mthM] at p
  split at p <;> try (exact p.elim)
  obtain ⟨k, e, rfl, rk, re⟩ := reps2 hds
  generalize hq : dicOf μ d = o at p
  cases o with
  | none => exact p.elim
  | some q =>
    obtain ⟨ks, vs⟩ := q
    simp only at p
    split at p
    · rename_i hk
      obtain ⟨a, kvs, rfl, rd, rfl, rv⟩ := dicOf_rep m hd hq
      obtain ⟨kk, rfl, hkk⟩ := keyD_of _ hk
      have ek := hkk rk
      subst ek
      cases rx
      obtain ⟨u, w, rfl, ru, rw'⟩ := vals2 rxs
      have g : DGet H a (kV kk) (valV kvs kk) := .inl ⟨kvs, kk, rd, rfl, rfl⟩
      refine d_get2 hu I g ru rw' fun w' s' I' r' => ⟨_, H, I', r', ?_⟩
      have gv := getK_val kk rv
      generalize hgk : getK (keyD kk) (kvs.map fun p => keyD p.1) vs = o at p gv
      cases o with
      | none =>
        rw [gv.2 rfl]
        exact p.val m re
      | some dd =>
        obtain ⟨v', e1, e2⟩ := gv.1 dd rfl
        rw [e1]
        exact p.val m e2
    · exact p.elim
/-! ### tuple, list -/
theorem bl_tupleM (hK : Z.K = X.K) : CallR X (.type "tuple") (rMn Z (bltM .tuple)) := by
  intro pins s σ H xs us Q I rs h
  obtain ⟨ρ, μ, ds, m, hd, p⟩ := h
  simp only [bltM] at p
  split at p <;> try (exact p.elim)
  obtain ⟨v, rfl, r⟩ := reps1 hd
  rename_i d
  generalize hv : view μ d = w at p
  cases w with
  | lst es =>
    have hl : lstOf μ d = some es := by unfold lstOf; rw [hv]
    obtain ⟨a, ys, rfl, ha, ra⟩ := lstOf_rep m r hl
    refine call_tupleF (Z := Z) hK pins s σ H _ us Q I rs ⟨a, ys, rfl, .inl ⟨.of ha, fun l o hl ho => ?_⟩⟩
    have x := Ext.new1 (o := .frz o (.tup ys)) ρ hl
    obtain ⟨m1, o1⟩ := m.new1 (o := .frz o (.tup ys)) hl
    exact p ρ _ _ x m1 (.tup (.inl ⟨.inr ⟨o, upd_same⟩, o1⟩) (fun _ => .inl ⟨o, _, upd_same, ho, o1⟩) (ra.ext x))
  | tup k es =>
    have e : d = .tup k es := by
      cases d with
      | ref i =>
        unfold view at hv
        simp only at hv
        split at hv <;> cases hv
      | _ => exact hv
    subst e
    obtain ⟨a, ys, rfl, sq, ra⟩ : ∃ a xs, v = .ref a ∧ SqT Z.K H a xs ∧ Reps Z ρ H es xs := by
      cases r with
      | tup h1 _ h3 => exact ⟨_, _, rfl, kt_sq h1, h3⟩
    exact call_tupleF (Z := Z) hK pins s σ H _ us Q I rs ⟨a, ys, rfl, .inr ⟨hK ▸ sq, p.val m r⟩⟩
  | _ => exact p.elim
end
end Mi
set_option Elab.async false
set_option linter.all false
set_option maxRecDepth 100000
set_option maxHeartbeats 4000000
/-! Me: expressions. -/
namespace Mi
open PySem PySem.Spec PyProof.Rows L2
/-- the object of such a lambda at a, its code object at c; chk: what its parameters, body, names keep -/
def LamG (chk : Arguments → Expr → Scope → Prop) (q : Str) (a c : Addr) : HO := .ext fun h => ∃ params body scope pm ctv, chk params body scope ∧ h.get? a = some (PySem.W.kla_obj "<lambda>" q params body scope [] pm c ctv)
/-- all names are global -/
structure LamC (scope : Scope) : Prop where
  kind : scope.kind = .function
  co : scope.isCoroutine = false
  gen : scope.isGenerator = false
  own : ∀ y ∈ scope.names, y.2 ≠ .local ∧ y.2 ≠ .cell ∧ y.2 ≠ .free
structure Cfg where
  N : List Str
  fns : List (Str × Nat)
  globs : List Str
  excs : List Str
  /-- how deep generator expressions may stand in one another -/
  d : Nat
  /-- lambdas that may be made -/
  lam : Nat → Arguments → Expr → Scope → Bool := fun _ _ _ _ => false
  /-- what a name holds may be called -/
  cv : Bool := false
def ZP (Z0 Z : Zx) : Prop := ∃ ex, Z = { Z0 with ex := ex }
theorem ZP.with {Z0 Z : Zx} (h : ZP Z0 Z) (a : Addr) : ZP Z0 (Z.with a) := by
  obtain ⟨ex, rfl⟩ := h
  exact ⟨_, rfl⟩
/-- the promise of a def that computes g -/
def spM (Z0 : Zx) (cls : Nat → Value) (n : Nat) (g : List D → Mu → R D) : Sp := fun vs H Q E =>
  ∃ Z ρ μ ds, ZP Z0 Z ∧ ds.length = n ∧ MuOk Z ρ H μ ∧ Reps Z ρ H ds vs ∧ Pst Z ρ H (QD Z Q) (fun c _ H' _ => E (cls c) none H') (g ds μ)
structure Callee (X : Cx) (x : Str) (d : Nat) (sp : Sp) : Prop where
  ex : ∃ (f : Addr) (fd : FuncData) (ps : List Str) (k : Nat), FnOk X.prog X.w X.K X.mg X.base (L2.CX X.prog X.w) k f fd ps sp ∧ Room (k + d) X.A ∧ X.mg x = some (.ref f) ∧ PySem.W.keepIn X.K (.ref f) = true ∧ Binds X.K fd ps []
def bnames : List Str := ["len", "str", "int", "abs", "sum", "min", "max", "tuple", "sorted", "list", "range", "enumerate", "zip", "any", "all"]
structure Su (C : Cfg) (X : Cx) (Z0 Z : Zx) (Φ : Env) (cls : Nat → Value) (W : WX) : Prop where
  hK : Z.K = X.K
  hN : X.N = C.N
  nd : X.N.Nodup
  calm : X.calm = true
  hu : X.A.units + 66 + 16 * C.d < cLine
  dp : X.A.depth + 3 * C.d < recursionLimit
  cd : 0 < C.d → ∃ c P, X.env.code = .ref c ∧ GxR.TabB X.base X.mg c P ∧ P ∈ Z0.tb ∧ Z0.tq P = none
  lm : ∀ j params body scope, C.lam j params body scope = true → ∃ c P q, X.env.code = .ref c ∧ GxR.TabB X.base X.mg c P ∧ X.env.qual ++ "<lambda>" = q ∧ P ∈ Z0.tb ∧ Z0.tq P = some q ∧
    (∀ a c, Z0.fo j a c = LamG (fun p b s => C.lam j p b s = true) q a c) ∧ (∀ c, Z0.co j c = LamX.CodeO c q) ∧ (∀ env : PySem.Env, defaultsOf params env = ([], [])) ∧ LamC scope
  tk : Takes X W
  zp : ZP Z0 Z
  fn : ∀ (i : Nat) (x : Str) (n : Nat), C.fns[i]? = some (x, n) → Callee X x C.d (spM Z0 cls n (Φ.fn i))
  gl : ∀ (i : Nat) (x : Str), C.globs[i]? = some x → ∃ u, X.mg x = some u ∧ ∀ Z ρ H μ, ZP Z0 Z → MuOk Z ρ H μ → ∃ v, RelV v u ∧ Rep Z ρ H (Φ.glob i) v
  bl : ∀ x ∈ bnames, X.mg x = none
/-- a reading of an expression -/
def tG {α : Type} (Z : Zx) (W : WX) (cls : Nat → Value) (f : Sl → Mu → R α) (QQ : α → List Addr → Hp → Mu → Prop) (σ : L2.St) (H : Hp) : Prop :=
  ∃ ρ σ' μ, SlOk Z ρ H σ' σ ∧ MuOk Z ρ H μ ∧ Pst Z ρ H QQ (fun c _ H' _ => W (cls c) none σ H') (f σ' μ)
abbrev tE (Z : Zx) (W : WX) (cls : Nat → Value) (f : Sl → Mu → R D) : TE := fun σ H Q => tG Z W cls f (QD Z Q) σ H
abbrev tT (Z : Zx) (W : WX) (cls : Nat → Value) (f : Sl → Mu → R Bool) : TT := fun σ H Q => tG Z W cls f (fun b _ H' _ => Q b H') σ H
def QL (Z : Zx) (Q : List V → Hp → Prop) : List D → List Addr → Hp → Mu → Prop := fun ds ρ H _ => ∀ vs, Reps Z ρ H ds vs → Q vs H
abbrev tL (Z : Zx) (W : WX) (cls : Nat → Value) (f : Sl → Mu → R (List D)) : TA := fun σ H Q => tG Z W cls f (QL Z Q) σ H
section
variable {C : Cfg} {X : Cx} {Z0 Z : Zx} {Φ : Env} {cls : Nat → Value} {W : WX} {α β : Type}
variable {ρ : List Addr} {H : Hp} {μ : Mu} {σ' : Sl} {σ : L2.St} {Q : VK}
/-- a reading's first part -/
theorem tE_bnd {a : Sl → Mu → R D} {f : D → Mu → R β} {QQ : β → List Addr → Hp → Mu → Prop} (so : SlOk Z ρ H σ' σ) (m : MuOk Z ρ H μ) (p : Pst Z ρ H QQ (fun c _ H' _ => W (cls c) none σ H') ((a σ' μ).bnd f))
    (hQ : ∀ x ρ1 H1 μ1 v, Ext ρ H ρ1 H1 → SlOk Z ρ1 H1 σ' σ → MuOk Z ρ1 H1 μ1 → Rep Z ρ1 H1 x v → Pst Z ρ1 H1 QQ (fun c _ H' _ => W (cls c) none σ H') (f x μ1) → Q v H1) : tE Z W cls a σ H Q :=
  ⟨ρ, σ', μ, so, m, p.bnd.mono (fun x ρ1 H1 μ1 e m1 q v r => hQ x ρ1 H1 μ1 v e (so.ext e) m1 r q) fun _ _ _ _ _ _ h => h⟩
theorem tT_bnd {a : Sl → Mu → R Bool} {f : Bool → Mu → R β} {QQ : β → List Addr → Hp → Mu → Prop} {Q : Bool → Hp → Prop} (so : SlOk Z ρ H σ' σ) (m : MuOk Z ρ H μ) (p : Pst Z ρ H QQ (fun c _ H' _ => W (cls c) none σ H') ((a σ' μ).bnd f))
    (hQ : ∀ b ρ1 H1 μ1, Ext ρ H ρ1 H1 → SlOk Z ρ1 H1 σ' σ → MuOk Z ρ1 H1 μ1 → Pst Z ρ1 H1 QQ (fun c _ H' _ => W (cls c) none σ H') (f b μ1) → Q b H1) : tT Z W cls a σ H Q :=
  ⟨ρ, σ', μ, so, m, p.bnd.mono (fun b ρ1 H1 μ1 e m1 q => hQ b ρ1 H1 μ1 e (so.ext e) m1 q) fun _ _ _ _ _ _ h => h⟩
theorem tL_bnd {a : Sl → Mu → R (List D)} {f : List D → Mu → R β} {QQ : β → List Addr → Hp → Mu → Prop} {Q : List V → Hp → Prop} (so : SlOk Z ρ H σ' σ) (m : MuOk Z ρ H μ) (p : Pst Z ρ H QQ (fun c _ H' _ => W (cls c) none σ H') ((a σ' μ).bnd f))
    (hQ : ∀ xs ρ1 H1 μ1 vs, Ext ρ H ρ1 H1 → SlOk Z ρ1 H1 σ' σ → MuOk Z ρ1 H1 μ1 → Reps Z ρ1 H1 xs vs → Pst Z ρ1 H1 QQ (fun c _ H' _ => W (cls c) none σ H') (f xs μ1) → Q vs H1) : tL Z W cls a σ H Q :=
  ⟨ρ, σ', μ, so, m, p.bnd.mono (fun x ρ1 H1 μ1 e m1 q v r => hQ x ρ1 H1 μ1 v e (so.ext e) m1 r q) fun _ _ _ _ _ _ h => h⟩
/-! ### names, constants -/
theorem m_var {i : Nat} {x : Str} {pos : Pos} (hN : X.N[i]? = some x) (hv : Vis X.env.scope x) (hd : (x == ("__debug__" : Str)) = false) (hcd : (x == ("__classdict__" : Str)) = false) : PE X (.Name x pos) (tE Z W cls (ev Φ (.var i))) := by
  refine ⟨fun pins s σ H Q I h => (pe_var hN hv hd hcd).run pins s σ H Q I ?_⟩
  obtain ⟨ρ, σ', μ, so, m, p⟩ := h
  unfold ev at p
  split at p
  · rename_i d e
    obtain ⟨v, h1, h2⟩ := so.at_ i d e
    exact ⟨v, h1, p.val m h2⟩
  · exact p.elim
theorem m_cst {d : D} {v : V} {e : Expr} (h : PE X e (tC v)) (hr : ∀ Z ρ H, Rep Z ρ H d v) : PE X e (tE Z W cls (ev Φ (.cst d))) := by
  refine ⟨fun pins s σ H Q I h' => h.run pins s σ H Q I ?_⟩
  obtain ⟨ρ, σ', μ, so, m, p⟩ := h'
  unfold ev at p
  exact p.val m (hr _ _ _)
theorem m_glo (S : Su C X Z0 Z Φ cls W) {i : Nat} {x : Str} {pos : Pos} (hi : C.globs[i]? = some x) (hg : Gl X x) (hd : (x == ("__debug__" : Str)) = false) : PE X (.Name x pos) (tE Z W cls (ev Φ (.glo i))) := by
  refine ⟨fun pins s σ H Q I h => ?_⟩
  obtain ⟨ρ, σ', μ, so, m, p⟩ := h
  obtain ⟨u, hm, hr⟩ := S.gl i x hi
  obtain ⟨v, r, rp⟩ := hr Z ρ H μ S.zp m
  refine (pe_glob hg hm r hd).run pins s σ H Q I ?_
  unfold ev at p
  exact p.val m rp
/-! ### operators -/
variable {a b c ast : Expr} {ea eb ec : E} {pos : Pos}
theorem m_bin (S : Su C X Z0 Z Φ cls W) (o : BO) (ha : PE X a (tE Z W cls (ev Φ ea))) (hb : PE X b (tE Z W cls (ev Φ eb))) : PE X (.BinOp a (boPy o) b pos) (tE Z W cls (ev Φ (.bin o ea eb))) := by
  refine ⟨fun pins s σ H Q I h => (pe_op (op_bM S.hK o) ha hb).run pins s σ H Q I ?_⟩
  obtain ⟨ρ, σ', μ, so, m, p⟩ := h
  unfold ev at p
  exact tE_bnd so m p fun x ρ1 H1 μ1 v e1 so1 m1 r1 p1 => tE_bnd so1 m1 p1 fun y ρ2 H2 μ2 u e2 so2 m2 r2 p2 => ⟨ρ2, μ2, x, y, m2, r1.ext e2, r2, p2.opt_⟩
theorem m_neg (ha : PE X a (tE Z W cls (ev Φ ea))) : PE X (.UnaryOp .USub a pos) (tE Z W cls (ev Φ (.neg ea))) := by
  refine ⟨fun pins s σ H Q I h => (pe_un un_neg ha).run pins s σ H Q I ?_⟩
  obtain ⟨ρ, σ', μ, so, m, p⟩ := h
  unfold ev at p
  refine tE_bnd so m p fun x ρ1 H1 μ1 v e1 so1 m1 r1 p1 => ?_
  split at p1 <;> try (exact p1.elim)
  cases r1
  exact ⟨_, rfl, p1.val m1 (.int _)⟩
theorem m_not (S : Su C X Z0 Z Φ cls W) (ha : PE X a (tE Z W cls (ev Φ ea))) : PE X (.UnaryOp .Not a pos) (tE Z W cls (ev Φ (.not ea))) := by
  refine ⟨fun pins s σ H Q I h => (pe_notT ha).run pins s σ H Q I ?_⟩
  obtain ⟨ρ, σ', μ, so, m, p⟩ := h
  unfold ev at p
  refine tE_bnd so m p fun x ρ1 H1 μ1 v e1 so1 m1 r1 p1 => ?_
  obtain ⟨b, hb, p2⟩ := p1.bnd.opt_some m1
  exact ⟨b, tru_rep S.hK m1 r1 hb, p2.val m1 (.bl _)⟩
theorem m_cmp (S : Su C X Z0 Z Φ cls W) (o : CO) (ha : PE X a (tE Z W cls (ev Φ ea))) (hb : PE X b (tE Z W cls (ev Φ eb))) (hm : behindInMarks (coPy o) b = false) : PE X (.Compare a [coPy o] [b] pos) (tE Z W cls (ev Φ (.cmp o ea eb))) := by
  refine ⟨fun pins s σ H Q I h => (pe_cmpR (op_cM S.hK (by have := S.hu; omega) o) ha hb hm).run pins s σ H Q I ?_⟩
  obtain ⟨ρ, σ', μ, so, m, p⟩ := h
  unfold ev at p
  exact tE_bnd so m p fun x ρ1 H1 μ1 v e1 so1 m1 r1 p1 => tE_bnd so1 m1 p1 fun y ρ2 H2 μ2 u e2 so2 m2 r2 p2 => ⟨ρ2, μ2, x, y, m2, r1.ext e2, r2, p2.opt_⟩
theorem m_and (S : Su C X Z0 Z Φ cls W) {rest : List Expr} (ha : PE X a (tE Z W cls (ev Φ ea))) (hb : PE X (.BoolOp .And (b :: rest) pos) (tE Z W cls (ev Φ eb))) : PE X (.BoolOp .And (a :: b :: rest) pos) (tE Z W cls (ev Φ (.and ea eb))) := by
  refine ⟨fun pins s σ H Q I h => (pe_andT ha hb).run pins s σ H Q I ?_⟩
  obtain ⟨ρ, σ', μ, so, m, p⟩ := h
  unfold ev at p
  refine tE_bnd so m p fun x ρ1 H1 μ1 v e1 so1 m1 r1 p1 => ?_
  obtain ⟨k, hk, p2⟩ := p1.bnd.opt_some m1
  refine ⟨k, tru_rep S.hK m1 r1 hk, ?_⟩
  cases k with
  | true => exact ⟨ρ1, σ', μ1, so1, m1, p2⟩
  | false => exact p2.val m1 r1
theorem m_or (S : Su C X Z0 Z Φ cls W) {rest : List Expr} (ha : PE X a (tE Z W cls (ev Φ ea))) (hb : PE X (.BoolOp .Or (b :: rest) pos) (tE Z W cls (ev Φ eb))) : PE X (.BoolOp .Or (a :: b :: rest) pos) (tE Z W cls (ev Φ (.or ea eb))) := by
  refine ⟨fun pins s σ H Q I h => (pe_orT ha hb).run pins s σ H Q I ?_⟩
  obtain ⟨ρ, σ', μ, so, m, p⟩ := h
  unfold ev at p
  refine tE_bnd so m p fun x ρ1 H1 μ1 v e1 so1 m1 r1 p1 => ?_
  obtain ⟨k, hk, p2⟩ := p1.bnd.opt_some m1
  refine ⟨k, tru_rep S.hK m1 r1 hk, ?_⟩
  cases k with
  | true => exact p2.val m1 r1
  | false => exact ⟨ρ1, σ', μ1, so1, m1, p2⟩
theorem m_ife (hc : PT X c (tT Z W cls (evT Φ ec))) (ha : PE X a (tE Z W cls (ev Φ ea))) (hb : PE X b (tE Z W cls (ev Φ eb))) : PE X (.IfExp c a b pos) (tE Z W cls (ev Φ (.ife ec ea eb))) := by
  refine ⟨fun pins s σ H Q I h => (pe_ifExp hc ha hb).run pins s σ H Q I ?_⟩
  obtain ⟨ρ, σ', μ, so, m, p⟩ := h
  unfold ev at p
  refine tT_bnd so m p fun k ρ1 H1 μ1 e1 so1 m1 p1 => ?_
  cases k with
  | true => exact ⟨ρ1, σ', μ1, so1, m1, p1⟩
  | false => exact ⟨ρ1, σ', μ1, so1, m1, p1⟩
/-! ### tests -/
theorem m_tnot (ha : PT X a (tT Z W cls (evT Φ ea))) : PT X (.UnaryOp .Not a pos) (tT Z W cls (evT Φ (.not ea))) := by
  refine ⟨fun pins s σ H Q I h => (pt_not ha).run pins s σ H Q I ?_⟩
  obtain ⟨ρ, σ', μ, so, m, p⟩ := h
  unfold evT at p
  exact tT_bnd so m p fun k ρ1 H1 μ1 e1 so1 m1 p1 => p1.ok m1
theorem m_tand {rest : List Expr} (ha : PT X a (tT Z W cls (evT Φ ea))) (hb : PW X (.BoolOp .And (b :: rest) pos) (tT Z W cls (evT Φ eb))) : PW X (.BoolOp .And (a :: b :: rest) pos) (tT Z W cls (evT Φ (.and ea eb))) := by
  refine ⟨fun wh pins s σ H Q I h => (pw_and ha hb).run wh pins s σ H Q I ?_⟩
  obtain ⟨ρ, σ', μ, so, m, p⟩ := h
  unfold evT at p
  refine tT_bnd so m p fun k ρ1 H1 μ1 e1 so1 m1 p1 => ?_
  cases k with
  | true => exact ⟨ρ1, σ', μ1, so1, m1, p1⟩
  | false => exact p1.ok m1
theorem m_tor {rest : List Expr} (ha : PT X a (tT Z W cls (evT Φ ea))) (hb : PW X (.BoolOp .Or (b :: rest) pos) (tT Z W cls (evT Φ eb))) : PW X (.BoolOp .Or (a :: b :: rest) pos) (tT Z W cls (evT Φ (.or ea eb))) := by
  refine ⟨fun wh pins s σ H Q I h => (pw_or ha hb).run wh pins s σ H Q I ?_⟩
  obtain ⟨ρ, σ', μ, so, m, p⟩ := h
  unfold evT at p
  refine tT_bnd so m p fun k ρ1 H1 μ1 e1 so1 m1 p1 => ?_
  cases k with
  | true => exact p1.ok m1
  | false => exact ⟨ρ1, σ', μ1, so1, m1, p1⟩
theorem m_tcmp (S : Su C X Z0 Z Φ cls W) (o : CO) (ha : PE X a (tE Z W cls (ev Φ ea))) (hb : PE X b (tE Z W cls (ev Φ eb))) (hm : behindInMarks (coPy o) b = false) : PT X (.Compare a [coPy o] [b] pos) (tT Z W cls (evT Φ (.cmp o ea eb))) := by
  refine ⟨fun pins s σ H Q I h => (pt_cmpR (op_cM S.hK (by have := S.hu; omega) o) ha hb hm).run pins s σ H Q I ?_⟩
  obtain ⟨ρ, σ', μ, so, m, p⟩ := h
  unfold evT at p
  refine tE_bnd so m p fun x ρ1 H1 μ1 v e1 so1 m1 r1 p1 => tE_bnd so1 m1 p1 fun y ρ2 H2 μ2 u e2 so2 m2 r2 p2 => ⟨ρ2, μ2, x, y, m2, r1.ext e2, r2, ?_⟩
  obtain ⟨k, hk, p3⟩ := p2.opt_some m2
  show PV Z ρ2 H2 μ2 _ (Option.map D.bl (cmpM o μ2 x y))
  rw [hk] at p2 ⊢
  intro ρ3 H3 w e3 m3 r3
  cases r3
  exact ⟨k, rfl, p2 ρ3 H3 e3 m3⟩
theorem m_tval (S : Su C X Z0 Z Φ cls W) (ha : PE X a (tE Z W cls (ev Φ ea))) (he : ∀ whole, isTrue a X.env whole = (do let v ← whole; standAt a.pos; holding [v] (truthy v)))
    (hv : ∀ σ' μ, evT Φ ea σ' μ = (ev Φ ea σ' μ).bnd fun x μ => opt (truth μ x) μ) : PT X a (tT Z W cls (evT Φ ea)) := by
  refine ⟨fun pins s σ H Q I h => (pt_truth ha he).run pins s σ H Q I ?_⟩
  obtain ⟨ρ, σ', μ, so, m, p⟩ := h
  rw [hv] at p
  refine tE_bnd so m p fun x ρ1 H1 μ1 v e1 so1 m1 r1 p1 => ?_
  obtain ⟨k, hk, p2⟩ := p1.opt_some m1
  exact ⟨k, tru_rep S.hK m1 r1 hk, p2⟩
end
end Mi
set_option Elab.async false
set_option linter.all false
set_option maxRecDepth 100000
set_option maxHeartbeats 4000000
/-! Mf: calls, subscripts, displays. -/
namespace Mi
open PySem PySem.Spec PyProof.Rows L2
def nst : Expr → Bool
  | .Starred .. => false
  | _ => true
/-- no super() -/
def nsup : Expr → Bool
  | .Call (.Name ..) [] [] _ => false
  | _ => true
def nslc : Expr → Bool
  | .Slice .. => false
  | _ => true
def nset : Expr → Bool
  | .Set .. => false
  | _ => true
theorem star_of {e : Expr} {es : List Expr} {env : PySem.Env} (h : nst e = true) : starEach (e :: es) env = (false, eval e env) :: starEach es env := by
  cases e <;> first | rfl | cases h
theorem base_of {o : Expr} {name : Str} {env : PySem.Env} (h : nsup o = true) : attributeBase o name env (eval o env) = eval o env := by
  unfold attributeBase
  split
  · cases h
  · rfl
theorem slice_of {b : Expr} (h : nslc b = true) : PlainIx b := by
  intro o i
  cases b <;> first | rfl | cases h
theorem behind_of {op : CmpOp} {b : Expr} (h : nset b = true) : behindInMarks op b = false := by
  cases b <;> first | rfl | cases h
theorem folded_of {b : Expr} {env : PySem.Env} (h : nset b = true) : ∀ x, foldedSetIterable b env x = pure x := by
  intro x
  cases b <;> first | rfl | cases h
theorem nostar {pos : Pos} {env : PySem.Env} : ∀ {es : List Expr}, es.all nst = true → (backTo pos (starEach es env)).any (·.1) = false ∧ (backTo pos (starEach es env)).all (fun x => !x.1) = true
  | [], _ => ⟨rfl, rfl⟩
  | e :: es, h => by
    simp only [List.all_cons, Bool.and_eq_true] at h
    have ih := nostar (pos := pos) (env := env) h.2
    rw [star_of h.1]
    exact ⟨ih.1, ih.2⟩
theorem few_of {pos : Pos} {env : PySem.Env} {es : List Expr} (h : es.all nst = true) (hl : es.length < 30) : ((backTo pos (starEach es env)).all (fun x => !x.1) && (backToKw pos (keywordEach [] env)).all (fun x => x.1.isSome)
      && decide (es.length + ([] : List Keyword).length + (if ([] : List Keyword).isEmpty then 0 else 1) < 30)) = true := by
  rw [(nostar h).2]
  simp [hl, keywordEach, backToKw]
section
variable {C : Cfg} {X : Cx} {Z0 Z : Zx} {Φ : Env} {cls : Nat → Value} {W : WX} {α β : Type}
variable {ρ : List Addr} {H : Hp} {μ : Mu} {σ' : Sl} {σ : L2.St} {Q : VK}
variable {a b c ast : Expr} {ea eb ec : E} {pos : Pos} {as : List Expr} {es : Es}
theorem m_nil : PA X [] (tL Z W cls (evs Φ .nil)) := by
  refine ⟨fun pos pins s σ H Q I h => pa_nil.run pos pins s σ H Q I ?_⟩
  obtain ⟨ρ, σ', μ, so, m, p⟩ := h
  unfold evs at p
  exact p.ok m [] .nil
theorem m_cons (ha : PE X a (tE Z W cls (ev Φ ea))) (hr : PA X as (tL Z W cls (evs Φ es))) (h : nst a = true) : PA X (a :: as) (tL Z W cls (evs Φ (.cons ea es))) := by
  refine ⟨fun pos pins s σ H Q I h' => (pa_cons ha hr (star_of h)).run pos pins s σ H Q I ?_⟩
  obtain ⟨ρ, σ', μ, so, m, p⟩ := h'
  unfold evs at p
  refine tE_bnd so m p fun x ρ1 H1 μ1 v e1 so1 m1 r1 p1 => tL_bnd so1 m1 p1 fun y ρ2 H2 μ2 u e2 so2 m2 r2 p2 => ?_
  exact p2.ok m2 _ (.cons (r1.ext e2) r2)
theorem m_call (S : Su C X Z0 Z Φ cls W) {i n : Nat} {x : Str} {p : Pos} (hf : C.fns[i]? = some (x, n)) (hg : Gl X x) (hdb : (x == ("__debug__" : Str)) = false) (ha : PA X (a :: as) (tL Z W cls (evs Φ es))) (hst : (a :: as).all nst = true)
    (hn : ∀ σ' μ ds μ', evs Φ es σ' μ = .ok ds μ' → ds.length = n) : PE X (.Call (.Name x p) (a :: as) [] pos) (tE Z W cls (ev Φ (.call i es))) := by
  obtain ⟨f, fd, ps, k, F, hr0, hm, hk, hb⟩ := (S.fn i x n hf).ex
  have hr := hr0.mono (Nat.le_add_right k C.d)
  refine ⟨fun pins s σ H Q I h => ?_⟩
  obtain ⟨ρ, σ', μ, so, m, p⟩ := h
  unfold ev at p
  simp only [List.all_cons, Bool.and_eq_true] at hst
  refine (pe_callS F hr hg hm hk hb (fun σ => passAt S.tk σ) ha hdb (star_of hst.1) (nostar hst.2).1).run pins s σ H Q I ?_
  show tL Z W cls (evs Φ es) σ H (fun vs H1 => spM Z0 cls n (Φ.fn i) vs H1 Q (WE W σ))
  refine ⟨ρ, σ', μ, so, m, ?_⟩
  have q := p.bnd
  generalize hes : evs Φ es σ' μ = r at q ⊢
  cases r with
  | ok ds μ' =>
    intro ρ1 H1 e1 m1 vs rv
    exact ⟨Z, ρ1, μ', ds, S.zp, hn _ _ _ _ hes, m1, rv, q ρ1 H1 e1 m1⟩
  | exc c μ' => exact q
  | no => exact q
theorem m_call0 (S : Su C X Z0 Z Φ cls W) {i : Nat} {x : Str} {p : Pos} (hf : C.fns[i]? = some (x, 0)) (hg : Gl X x) (hdb : (x == ("__debug__" : Str)) = false) : PE X (.Call (.Name x p) [] [] pos) (tE Z W cls (ev Φ (.call i .nil))) := by
  obtain ⟨f, fd, ps, k, F, hr0, hm, hk, hb⟩ := (S.fn i x 0 hf).ex
  have hr := hr0.mono (Nat.le_add_right k C.d)
  refine ⟨fun pins s σ H Q I h => ?_⟩
  obtain ⟨ρ, σ', μ, so, m, p⟩ := h
  unfold ev evs at p
  refine wpAny_Call_Name_kw (ld_glob I hg hm ?_ hdb)
  exact PySem.W.callWith_K0 I.kIn hk (run_fnS (us := []) (vs := []) F hr hb (passAt S.tk σ) I .nil ⟨Z, ρ, μ, [], S.zp, rfl, m, .nil, p⟩)
theorem m_bltB (S : Su C X Z0 Z Φ cls W) {x : Str} {id : String} {p : Pos} {bf : BF} (hc : CallR X (.builtin id) (rMn Z (bltM bf))) (hx : x ∈ bnames) (hv : bootBuiltins x = some (.builtin id)) (hg : Gl X x) (hnn : x ≠ "__name__") (hdb : (x == ("__debug__" : Str)) = false)
    (ha : PA X (a :: as) (tL Z W cls (evs Φ es))) (hst : (a :: as).all nst = true) : PE X (.Call (.Name x p) (a :: as) [] pos) (tE Z W cls (ev Φ (.blt bf es))) := by
  refine ⟨fun pins s σ H Q I h => ?_⟩
  obtain ⟨ρ, σ', μ, so, m, p⟩ := h
  unfold ev at p
  simp only [List.all_cons, Bool.and_eq_true] at hst
  refine (pe_callB hc hg (S.bl x hx) hv ha hnn hdb (star_of hst.1) (nostar hst.2).1).run pins s σ H Q I ?_
  exact tL_bnd so m p fun xs ρ1 H1 μ1 vs e1 so1 m1 r1 p1 => ⟨ρ1, μ1, xs, m1, r1, p1.opt_⟩
theorem m_bltT (S : Su C X Z0 Z Φ cls W) {x : Str} {id : String} {p : Pos} {bf : BF} (hc : CallR X (.type id) (rMn Z (bltM bf))) (hx : x ∈ bnames) (hv : bootBuiltins x = some (.type id)) (hg : Gl X x) (hnn : x ≠ "__name__") (hdb : (x == ("__debug__" : Str)) = false)
    (ha : PA X (a :: as) (tL Z W cls (evs Φ es))) (hst : (a :: as).all nst = true) : PE X (.Call (.Name x p) (a :: as) [] pos) (tE Z W cls (ev Φ (.blt bf es))) := by
  refine ⟨fun pins s σ H Q I h => ?_⟩
  obtain ⟨ρ, σ', μ, so, m, p⟩ := h
  unfold ev at p
  simp only [List.all_cons, Bool.and_eq_true] at hst
  refine (pe_callTy hc hg (S.bl x hx) hv ha hnn hdb (star_of hst.1) (nostar hst.2).1).run pins s σ H Q I ?_
  exact tL_bnd so m p fun xs ρ1 H1 μ1 vs e1 so1 m1 r1 p1 => ⟨ρ1, μ1, xs, m1, r1, p1.opt_⟩
theorem m_sub (S : Su C X Z0 Z Φ cls W) (ha : PE X a (tE Z W cls (ev Φ ea))) (hb : PE X b (tE Z W cls (ev Φ eb))) (hs : nslc b = true) : PE X (.Subscript a b pos) (tE Z W cls (ev Φ (.sub ea eb))) := by
  refine ⟨fun pins s σ H Q I h => (pe_ix (ix_M S.hK (by have := S.hu; omega)) ha hb (slice_of hs)).run pins s σ H Q I ?_⟩
  obtain ⟨ρ, σ', μ, so, m, p⟩ := h
  unfold ev at p
  exact tE_bnd so m p fun x ρ1 H1 μ1 v e1 so1 m1 r1 p1 => tE_bnd so1 m1 p1 fun y ρ2 H2 μ2 u e2 so2 m2 r2 p2 => ⟨ρ2, μ2, x, y, m2, r1.ext e2, r2, p2.opt_⟩
/-- a part of a slice -/
abbrev tO (Z : Zx) (W : WX) (cls : Nat → Value) (f : Sl → Mu → R (Option Int)) : TO := fun σ H Q => tG Z W cls f (fun o _ H' _ => Q o H') σ H
theorem m_ono : PO X none (tO Z W cls (evo Φ .none)) := by
  refine ⟨fun pins s σ H Q I h => po_none.run pins s σ H Q I ?_⟩
  obtain ⟨ρ, σ', μ, so, m, p⟩ := h
  unfold evo at p
  exact p.ok m
theorem m_oso (ha : PE X a (tE Z W cls (ev Φ ea))) : PO X (some a) (tO Z W cls (evo Φ (.some ea))) := by
  refine ⟨fun pins s σ H Q I h => (po_some ha).run pins s σ H Q I ?_⟩
  obtain ⟨ρ, σ', μ, so, m, p⟩ := h
  unfold evo at p
  refine tE_bnd so m p fun x ρ1 H1 μ1 v e1 so1 m1 r1 p1 => ?_
  split at p1 <;> try (exact p1.elim)
  cases r1
  exact ⟨_, rfl, p1.ok m1⟩
theorem tO_bnd {a : Sl → Mu → R (Option Int)} {f : Option Int → Mu → R β} {QQ : β → List Addr → Hp → Mu → Prop} {Q : Option Int → Hp → Prop} (so : SlOk Z ρ H σ' σ) (m : MuOk Z ρ H μ) (p : Pst Z ρ H QQ (fun c _ H' _ => W (cls c) none σ H') ((a σ' μ).bnd f))
    (hQ : ∀ b ρ1 H1 μ1, Ext ρ H ρ1 H1 → SlOk Z ρ1 H1 σ' σ → MuOk Z ρ1 H1 μ1 → Pst Z ρ1 H1 QQ (fun c _ H' _ => W (cls c) none σ H') (f b μ1) → Q b H1) : tO Z W cls a σ H Q :=
  ⟨ρ, σ', μ, so, m, p.bnd.mono (fun b ρ1 H1 μ1 e m1 q => hQ b ρ1 H1 μ1 e (so.ext e) m1 q) fun _ _ _ _ _ _ h => h⟩
theorem m_slc (S : Su C X Z0 Z Φ cls W) {lo hi : Option Expr} {el eh : Eo} {p2 : Pos} (ha : PE X a (tE Z W cls (ev Φ ea))) (hl : PO X lo (tO Z W cls (evo Φ el))) (hh : PO X hi (tO Z W cls (evo Φ eh))) : PE X (.Subscript a (.Slice lo hi none p2) pos) (tE Z W cls (ev Φ (.slc ea el eh))) := by
  refine ⟨fun pins s σ H Q I h => (pe_slice (sl_M S.hK) ha hl hh).run pins s σ H Q I ?_⟩
  obtain ⟨ρ, σ', μ, so, m, p⟩ := h
  unfold ev at p
  refine tE_bnd so m p fun x ρ1 H1 μ1 v e1 so1 m1 r1 p1 => tO_bnd so1 m1 p1 fun l ρ2 H2 μ2 e2 so2 m2 p2 => tO_bnd so2 m2 p2 fun k ρ3 H3 μ3 e3 so3 m3 p3 => ⟨ρ3, μ3, x, m3, (r1.ext e2).ext e3, p3.opt_⟩
theorem m_rev (S : Su C X Z0 Z Φ cls W) {k : Nat} {p1 p2 p3 : Pos} (ha : PE X a (tE Z W cls (ev Φ ea))) : PE X (.Subscript a (.Slice none none (some (.UnaryOp .USub (.Constant (.int 1) k p1) p2)) p3) pos) (tE Z W cls (ev Φ (.rev ea))) := by
  refine ⟨fun pins s σ H Q I h => (pe_revL ha).run pins s σ H Q I ?_⟩
  obtain ⟨ρ, σ', μ, so, m, p⟩ := h
  unfold ev at p
  refine tE_bnd so m p fun x ρ1 H1 μ1 v e1 so1 m1 r1 p1 => ?_
  unfold revM at p1
  split at p1 <;> try (exact p1.elim)
  rename_i xs hv
  have hl : lstOf μ1 x = some xs := by unfold lstOf; rw [hv]
  obtain ⟨q, ys, rfl, hq, ry⟩ := lstOf_rep m1 r1 hl
  exact ⟨q, ys, rfl, .of hq, p1.opt_.lst m1 ry.reverse⟩
theorem m_tup {k : Nat} (h : PA X as (tL Z W cls (evs Φ es))) (hl : as.length ≤ 1000) (hn : ∀ σ' μ ds μ', evs Φ es σ' μ = .ok ds μ' → ds.length = as.length) : PE X (.Tuple as k pos) (tE Z W cls (ev Φ (.tup es))) := by
  refine ⟨fun pins s σ H Q I h' => (pe_tup h).run pins s σ H Q I ?_⟩
  obtain ⟨ρ, σ', μ, so, m, p⟩ := h'
  unfold ev at p
  show tL Z W cls (evs Φ es) σ H (fun vs H1 => vs.length ≤ sizeLine ∧ ∀ p, H1 p = none → Q (.ref p) (upd H1 p (.tup vs)))
  refine ⟨ρ, σ', μ, so, m, ?_⟩
  have q := p.bnd
  generalize hes : evs Φ es σ' μ = r at q ⊢
  cases r with
  | ok ds μ' =>
    intro ρ1 H1 e1 m1 vs rv
    refine ⟨?_, fun l hl => ?_⟩
    · rw [← rv.length, hn _ _ _ _ hes, sizeLine_eq]; omega
    · have x := Ext.new1 (o := .tup vs) ρ1 hl
      obtain ⟨m2, o2⟩ := m1.new1 (o := .tup vs) hl
      exact q ρ1 H1 e1 m1 ρ1 _ x m2 _ (.tup (.inl ⟨.inl upd_same, o2⟩) (fun z => by cases z) (rv.ext x))
  | exc c μ' => exact q
  | no => exact q
theorem m_lst {c : Bool} (h : PA X as (tL Z W cls (evs Φ es))) (hl : as.length ≤ 1000) (hn : ∀ σ' μ ds μ', evs Φ es σ' μ = .ok ds μ' → ds.length = as.length) : PE X (.List as pos) (tE Z W cls (ev Φ (.lst c es))) := by
  refine ⟨fun pins s σ H Q I h' => (pe_lst h).run pins s σ H Q I ?_⟩
  obtain ⟨ρ, σ', μ, so, m, p⟩ := h'
  unfold ev at p
  show tL Z W cls (evs Φ es) σ H (fun vs H1 => vs.length ≤ sizeLine ∧ ∀ p, H1 p = none → Q (.ref p) (upd H1 p (.lst vs)))
  refine ⟨ρ, σ', μ, so, m, ?_⟩
  have q := p.bnd
  generalize hes : evs Φ es σ' μ = r at q ⊢
  cases r with
  | ok ds μ' =>
    intro ρ1 H1 e1 m1 vs rv
    refine ⟨?_, fun l hl => ?_⟩
    · rw [← rv.length, hn _ _ _ _ hes, sizeLine_eq]; omega
    · exact (q ρ1 H1 e1 m1).fresh_lst m1 rv l hl
  | exc c μ' => exact q
  | no => exact q
theorem evs_len (Φ : Env) : ∀ (es : Es) (σ' : Sl) (μ : Mu) (ds : List D) (μ' : Mu), evs Φ es σ' μ = .ok ds μ' → ∀ es' : List Unit, True := fun _ _ _ _ _ _ _ => trivial
end
end Mi
set_option Elab.async false
set_option linter.all false
set_option maxRecDepth 100000
set_option maxHeartbeats 4000000
/-! Mg: methods, chains. -/
namespace Mi
open PySem PySem.Spec PyProof.Rows L2
section
variable {C : Cfg} {X : Cx} {Z0 Z : Zx} {Φ : Env} {cls : Nat → Value} {W : WX} {α β : Type}
variable {ρ : List Addr} {H : Hp} {μ : Mu} {σ' : Sl} {σ : L2.St} {Q : VK}
variable {a b c ast o : Expr} {ea eb ec eo : E} {pos : Pos} {as : List Expr} {es : Es}
theorem mth_go {T id : String} {name : Str} {pins : List (Addr × Obj)} {s : Shared} {x : V} {v : Value} {r : V → List V → Hp → VK → Prop} {cpos : Pos} (pa : PlainAttrs T) (slot : Slot T name id) (hty : typeOf (.builtin id) = pure (.type "method_descriptor")) (hm : MtR X id r)
    (ha : PA X (a :: as) (tL Z W cls (evs Φ es))) (hst : (a :: as).all nst = true) (I : Inv X pins σ H s) (rx : RelV x v) (h1 : s.TypeIs v T) (h2 : ∀ a, v = .ref a → ∃ ob, s.heap.get? a = some ob ∧ ob.dict = none)
    (key : tL Z W cls (evs Φ es) σ H (fun vs H2 => r x vs H2 Q)) : MethodOn X.prog X.w X.A name cpos v (backTo cpos (starEach (a :: as) X.env)) (EP X pins σ Q) X.xe s := by
  refine ⟨T, id, pa, slot, hty, h1, h2, ?_⟩
  simp only [List.all_cons, Bool.and_eq_true] at hst
  have hs := star_of (es := as) (env := X.env) hst.1
  have hplain := (nostar (pos := cpos) (env := X.env) hst.2).1
  have hA := ha.run cpos pins s σ H _ I key
  rw [hs] at hA ⊢
  refine Calls.callWith_builtin (by show (false || (backTo cpos (starEach as X.env)).any (·.1)) = false; rw [hplain] <;> rfl) (Calls.evalArgs_plain ?_)
  exact thn hA fun us s2 ⟨vs, H2, I2, r2, q2⟩ => hm pins s2 σ H2 x vs v us Q I2 rx r2 q2
def mName : MF → Str
  | .join => "join" | .split => "split" | .strip => "strip" | .lower => "lower" | .upper => "upper" | .find => "find" | .rfind => "rfind" | .index => "index" | .get => "get" | .replace => "replace"
/-- the methods that have a rule -/
def mHas : MF → Bool
  | .join | .rfind | .index | .get => true
  | _ => false
theorem m_mth (S : Su C X Z0 Z Φ cls W) (mf : MF) (hmf : mHas mf = true) {apos cpos : Pos} (ho : PE X o (tE Z W cls (ev Φ eo))) (ha : PA X (a :: as) (tL Z W cls (evs Φ es))) (hst : (a :: as).all nst = true) (hsup : nsup o = true) (hl : (a :: as).length < 30)
    (hline : (apos.endLine == cpos.line) = true) : PE X (.Call (.Attribute o (mName mf) apos) (a :: as) [] cpos) (tE Z W cls (ev Φ (.mth mf eo es))) := by
  refine ⟨fun pins s σ H Q I h => ?_⟩
  obtain ⟨ρ, σ', μ, so, m, p⟩ := h
  unfold ev at p
  refine wpAny_Call_method_late (base_of hsup) (few_of hst hl) hline rfl (thn (ho.run pins s σ H (fun x H1 => ∃ ρ1 μ1 d, SlOk Z ρ1 H1 σ' σ ∧ MuOk Z ρ1 H1 μ1 ∧ Rep Z ρ1 H1 d x ∧ recvM mf μ1 d = true ∧
    Pst Z ρ1 H1 (QD Z Q) (fun c _ H' _ => W (cls c) none σ H') ((evs Φ es σ' μ1).bnd fun xs μ => opt (mthM mf μ d xs) μ)) I (tE_bnd so m p fun x ρ1 H1 μ1 v e1 so1 m1 r1 p1 => ?_)) fun v s1 ⟨x, H1, I1, r1, ρ1, μ1, d, so1, m1, rd, hrc, p1⟩ => ?_)
  · split at p1
    · exact ⟨ρ1, μ1, x, so1, m1, r1, by assumption, p1⟩
    · exact p1.elim
  · have strT : ∀ {t : T}, d = .str t → s1.TypeIs v "str" ∧ ∀ a, v = .ref a → ∃ ob, s1.heap.get? a = some ob ∧ ob.dict = none := fun {t} e => by
      subst e
      cases rd
      exact tyV_is I1 r1 rfl
    have gen : tL Z W cls (evs Φ es) σ H1 (fun vs H2 => rMm Z mf x vs H2 Q) := tL_bnd so1 m1 p1 fun xs ρ2 H2 μ2 vs e2 so2 m2 r2 p2 => ⟨ρ2, μ2, d, xs, m2, rd.ext e2, r2, p2.opt_⟩
    cases mf with
    | join =>
      have hs : ∃ t, d = .str t := by
        cases d <;> first | exact ⟨_, rfl⟩ | cases hrc
      obtain ⟨t, rfl⟩ := hs
      exact mth_go PySem.F.plainAttrs_str PySem.F.slot_str_join PySem.F.type_str_join (mt_joinM S.hK) ha hst I1 r1 (strT rfl).1 (strT rfl).2 gen
    | rfind =>
      have hs : ∃ t, d = .str t := by
        cases d <;> first | exact ⟨_, rfl⟩ | cases hrc
      obtain ⟨t, rfl⟩ := hs
      exact mth_go PySem.F.plainAttrs_str PySem.F.slot_str_rfind PySem.F.type_str_rfind mt_rfindM ha hst I1 r1 (strT rfl).1 (strT rfl).2 gen
    | get =>
      have hq : ∃ q, dicOf μ1 d = some q := Option.isSome_iff_exists.mp hrc
      obtain ⟨⟨ks, vs⟩, hq⟩ := hq
      obtain ⟨p, kvs, rfl, hd, _, _⟩ := dicOf_rep m1 rd hq
      cases r1
      obtain ⟨t1, t2, _⟩ := isD_at I1 (.inl ⟨kvs, hd⟩)
      exact mth_go PySem.F.plainAttrs_dict PySem.F.slot_dict_get PySem.F.type_dict_get (mt_getM (by have := S.hu; omega)) ha hst I1 (x := .ref p) rfl t1 t2 gen
    | index =>
      have hrc' : (match view μ1 d with | .lst _ | .tup true _ => true | _ => false) = true := hrc
      generalize hv : view μ1 d = w at hrc'
      cases w with
      | lst xs =>
        have hl : lstOf μ1 d = some xs := by unfold lstOf; rw [hv]
        obtain ⟨p, ys, rfl, hp, ry⟩ := lstOf_rep m1 rd hl
        obtain ⟨t1, t2⟩ := tyV_is (T := "list") I1 r1 (.inl ⟨rfl, ys, .of hp⟩)
        have key : tL Z W cls (evs Φ es) σ H1 (fun vs H2 => ∃ ρ μ d ds es, MuOk Z ρ H2 μ ∧ Rep Z ρ H2 d (.ref p) ∧ view μ d = .lst es ∧ Reps Z ρ H2 ds vs ∧ PV Z ρ H2 μ Q (mthM .index μ d ds)) := by
          refine tL_bnd so1 m1 p1 fun zs ρ2 H2 μ2 vs e2 so2 m2 r2 p2 => ?_
          obtain ⟨w, hw, _⟩ := p2.opt_some m2
          have hw' := hw
          simp only [mthM] at hw'
          split at hw' <;> try (cases hw'; done)
          generalize hv2 : view μ2 d = w2 at hw'
          cases w2 with
          | lst es => exact ⟨ρ2, μ2, d, _, es, m2, rd.ext e2, hv2, r2, p2.opt_⟩
          | tup k es =>
            exfalso
            have e : d = .tup k es := by
              cases d with
              | ref i =>
                unfold view at hv2
                simp only at hv2
                split at hv2 <;> cases hv2
              | _ => exact hv2
            subst e
            cases hv
          | _ => cases hw'
        exact mth_go PySem.F.plainAttrs_list PySem.F.slot_list_index PySem.F.type_list_index (mt_lindexM S.hK) ha hst I1 r1 t1 t2 key
      | tup k xs =>
        have e : d = .tup k xs := by
          cases d with
          | ref i =>
            unfold view at hv
            simp only at hv
            split at hv <;> cases hv
          | _ => exact hv
        subst e
        cases k with
        | false => cases hrc'
        | true =>
          have rd' := rd
          cases rd' with
          | tup hq hn ra =>
            rename_i p ys
            have sq : SqT X.K H1 p ys := S.hK ▸ kt_sq hq
            obtain ⟨its, r, ⟨ob, ho, hc, _⟩, hz⟩ := I1.tuple sq
            cases r1
            have hdn : ∃ ob, s1.heap.get? p = some ob ∧ ob.dict = none := by
              rcases hn rfl with ⟨ob, u, e1, e2, _⟩ | ⟨ob, e1, e2⟩
              · exact ⟨ob, (I1.hok p _ e1).1, e2⟩
              · exact ⟨ob, I1.kIn p ob (S.hK ▸ e1), e2⟩
            have key : tL Z W cls (evs Φ es) σ H1 (fun vs H2 => ∃ ρ μ es ds, MuOk Z ρ H2 μ ∧ Rep Z ρ H2 (.tup true es) (.ref p) ∧ Reps Z ρ H2 ds vs ∧ PV Z ρ H2 μ Q (mthM .index μ (.tup true es) ds)) :=
              tL_bnd so1 m1 p1 fun zs ρ2 H2 μ2 vs e2 so2 m2 r2 p2 => ⟨ρ2, μ2, xs, _, m2, rd.ext e2, r2, p2.opt_⟩
            exact mth_go PySem.F.plainAttrs_tuple PySem.F.slot_tuple_index PySem.F.type_tuple_index (mt_tindexM S.hK) ha hst I1 (x := .ref p) rfl ⟨ob, ho, hc⟩ (fun a e => by cases e; exact hdn) key
      | _ => cases hrc'
    | _ => cases hmf
end
end Mi
set_option Elab.async false
set_option linter.all false
set_option maxRecDepth 100000
set_option maxHeartbeats 4000000
/-! Mj: enumerate and zip over lists, tuples and texts. -/
namespace Mi
open PySem PySem.Spec PyProof.Rows L2
open PySem.Sem (wp)
inductive Src | list (a : Addr) | tup (a : Addr) | txt (z : Str)
def Src.at_ (K : PySem.W.Frag) (H : Hp) (xs : List V) : Src → Prop
  | .list a => SqL K H a xs
  | .tup a => SqT K H a xs
  | .txt z => xs = z.cps.toList.map fun c => V.str ⟨#[c]⟩
def Src.val : Src → V
  | .list a => .ref a
  | .tup a => .ref a
  | .txt z => .str z
def Src.has : Src → Addr → Prop
  | .list a, b => a = b
  | .tup a, b => a = b
  | .txt _, _ => False
/-- the iterator's object -/
def Src.it (t : Tok) (it : Addr) (i : Nat) (h : Heap) : Src → Prop
  | .list a => h.IsListIter it a i
  | .tup a => h.IsTupleIter it a i
  | .txt z => h.IsStrIter it (strIterType z) z t i
theorem Src.it_obj {t : Tok} {it : Addr} {i : Nat} {h : Heap} : ∀ {S : Src}, S.it t it i h → ∃ o : Obj, h.get? it = some o ∧ (∀ v, o.data ≠ .cell v) ∧ o.cls ≠ .type "list" ∧ o.cls ≠ .type "tuple"
  | .list a, ⟨o, ho, hc, hd⟩ => ⟨o, ho, (fun v q => by rw [hd] at q; cases q), (by rw [hc]; decide), (by rw [hc]; decide)⟩
  | .tup a, ⟨o, ho, hc, hd⟩ => ⟨o, ho, (fun v q => by rw [hd] at q; cases q), (by rw [hc]; decide), (by rw [hc]; decide)⟩
  | .txt z, ⟨o, ho, hc, hd⟩ => ⟨o, ho, (fun v q => by rw [hd] at q; cases q), (by rw [hc]; unfold strIterType; split <;> decide), (by rw [hc]; unfold strIterType; split <;> decide)⟩
theorem Src.it_at {t : Tok} {it : Addr} {i : Nat} {h h' : Heap} : ∀ {S : Src}, S.it t it i h → (∀ o, h.get? it = some o → h'.get? it = some o) → S.it t it i h'
  | .list a, st, k => Heap.IsListIter.at st k
  | .tup a, st, k => Heap.IsTupleIter.at st k
  | .txt z, ⟨o, ho, r⟩, k => ⟨o, k o ho, r⟩
theorem vals_get' {xs : List V} {us : List Value} (r : Vals xs us) {j : Nat} {u : Value} (h : us[j]? = some u) : ∃ x, xs[j]? = some x ∧ RelV x u := by
  have hl := r.length
  have hj : j < xs.length := by
    have := (List.getElem?_eq_some_iff.mp h).1
    omega
  obtain ⟨u', hu, ru⟩ := r.get (List.getElem?_eq_getElem hj)
  rw [h] at hu
  cases hu
  exact ⟨_, List.getElem?_eq_getElem hj, ru⟩
section
variable {X : Cx} {pins : List (Addr × Obj)} {σ : L2.St} {H : Hp} {s : Shared}
/-- what the iterator draws at this turn -/
theorem src_draw (I : Inv X pins σ H s) (hc : X.calm = true) {S : Src} {t : Tok} {it : Addr} {i : Nat} {xs : List V} (hs : S.at_ X.K H xs) (st : S.it t it i s.heap) :
    ∃ (fp : List Addr) (P : Nat → Value → Prop) (St : Nat → Heap → Prop), Draws X.prog X.w X.A.in1 it fp xs.length P St ∧ St i s.heap ∧ (∀ j u, P j u → ∃ x, xs[j]? = some x ∧ RelV x u) ∧ (∀ j h, St j h → S.it t it j h) ∧ it ∈ fp ∧ (∀ b ∈ fp, b = it ∨ S.has b) := by
  have hh : X.A.in1.handled = none := I.ok.hd hc
  obtain ⟨oi, hoi, _, n1, n2⟩ := Src.it_obj st
  cases S with
  | list a =>
    obtain ⟨its, rv, p, hz⟩ := I.list hs
    have hne : a ≠ it := fun z => by
      obtain ⟨o, n, ho, hcl, _⟩ := p
      rw [z, hoi] at ho
      cases ho
      exact n1 hcl
    refine ⟨[it, a], fun i v => its.toArray[i]? = some v, fun i h => h.IsListIter it a i ∧ h.IsList a its.toArray, (by rw [rv.length, ← List.size_toArray]; exact Draws.list hh it a hne its.toArray), ⟨st, p.isList⟩, fun j u hu => ?_, fun j h q => q.1, by simp, fun b hb => ?_⟩
    · obtain ⟨x, hx, r⟩ := vals_get' rv (by simpa using hu)
      exact ⟨x, hx, r⟩
    · simp at hb
      exact hb.imp id fun e => e.symm
  | tup a =>
    obtain ⟨its, rv, p, hz⟩ := I.tuple hs
    have hne : a ≠ it := fun z => by
      obtain ⟨o, ho, hcl, _⟩ := p
      rw [z, hoi] at ho
      cases ho
      exact n2 hcl
    refine ⟨[it, a], fun i v => its.toArray[i]? = some v, fun i h => h.IsTupleIter it a i ∧ h.IsTuple a its.toArray, (by rw [rv.length, ← List.size_toArray]; exact Draws.tuple hh it a hne its.toArray), ⟨st, p⟩, fun j u hu => ?_, fun j h q => q.1, by simp, fun b hb => ?_⟩
    · obtain ⟨x, hx, r⟩ := vals_get' rv (by simpa using hu)
      exact ⟨x, hx, r⟩
    · simp at hb
      exact hb.imp id fun e => e.symm
  | txt z =>
    have hs' : xs = z.cps.toList.map fun c => V.str ⟨#[c]⟩ := hs
    subst hs'
    refine ⟨[it], fun i v => ∃ c u, z.cps[i]? = some c ∧ v = .str ⟨#[c]⟩ u, fun i h => h.IsStrIter it (strIterType z) z t i, (by rw [List.length_map, Array.length_toList]; exact Draws.text hh it z t), st, fun j u hu => ?_, fun j h q => q, by simp, fun b hb => .inl (by simpa using hb)⟩
    obtain ⟨c, k, h1, rfl⟩ := hu
    exact ⟨.str ⟨#[c]⟩, by simp [h1], ⟨k, rfl⟩⟩
/-! ### enumerate -/
def Iten (K : PySem.W.Frag) (S : Src) : L2.It :=
  ⟨fun i H => ∃ (xs : List V) (x : V), S.at_ K H xs ∧ xs[i]? = some x, fun i H v H' => ∃ T x, v = .ref T ∧ H T = none ∧ H' = upd H T (.tup [.int (i : Nat), x]) ∧ ∀ xs, S.at_ K H xs → xs[i]? = some x, fun i H => ∃ xs : List V, S.at_ K H xs ∧ xs.length = i⟩
theorem Src.inj (I : Inv X pins σ H s) {S : Src} {xs ys : List V} (h1 : S.at_ X.K H xs) (h2 : S.at_ X.K H ys) : xs = ys := by
  cases S with
  | list a => exact I.list_inj h1 h2
  | tup a => exact I.tuple_inj h1 h2
  | txt z => exact Eq.trans (show xs = _ from h1) (show ys = _ from h2).symm
theorem turn_en {P : Program} {w : World} {K : PySem.W.Frag} {elts : List Expr} {kk : Nat} {tpos : Pos} (S : Src) (t : Tok) (e it : Addr) (hne : e ≠ it) (hS : ¬ S.has e) :
    Turn P w K (.Tuple elts kk tpos) (Iten K S) [e, it] e (fun i h => (∃ old, IsEnum h e it ((i : Nat) : Int) old) ∧ S.it t it i h) where
  mem := by simp
  obj := fun i h st b hb => by
    obtain ⟨⟨old, he⟩, hi⟩ := st
    have e' : b = e ∨ b = it := by simpa using hb
    rcases e' with z | z
    · rw [z]; exact ⟨_, he, fun v q => nomatch q⟩
    · obtain ⟨o, ho, hd, _⟩ := Src.it_obj hi
      rw [z]; exact ⟨o, ho, hd⟩
  keep := fun i h h' st k => let ⟨⟨old, he⟩, hi⟩ := st; ⟨⟨old, k e (by simp) _ he⟩, Src.it_at hi fun o q => k it (by simp) o q⟩
  item := by
    intro X hP hw hK hc i pins s σ H E I hf st hg
    subst hP hw hK
    obtain ⟨⟨old, he⟩, hit⟩ := st
    obtain ⟨xs, x, hq, hx⟩ := hg
    obtain ⟨fp, Pq, St, D, hSt, hP, hTo, hmem, hfp⟩ := src_draw I hc hq hit
    have hel : e < s.heap.objs.size := Heap.lt_size he
    have hil : it < s.heap.objs.size := by obtain ⟨o, q, _⟩ := Src.it_obj hit; exact Heap.lt_size q
    have hef : e ∉ fp := fun z => (hfp e z).elim hne hS
    have hi : i < xs.length := (List.getElem?_eq_some_iff.mp hx).1
    refine wpAny_pyNext_enum_itemD D he hSt hi hne hef fun u h' tk hu ho hSt' hT hsz hk => ?_
    obtain ⟨x', hx', ru⟩ := hP i u hu
    rw [hx] at hx'
    cases hx'
    refine ⟨_, rfl, wpAny_letOwnedTupleGo_enum (s := { s with heap := h', toks := tk + 1 }) ho fun h'' he' sb => ?_⟩
    have hT2 : h''.get? s.heap.objs.size = some { cls := .type "tuple", data := .seq #[.int i tk, u] } := (sb.2 _ (Nat.ne_of_gt hel)).trans hT
    have new : ObjOk X.prog X.w (upd H s.heap.objs.size (.tup [.int (i : Nat), x])) h'' s.heap.objs.size (.tup [.int (i : Nat), x]) :=
      ⟨by show 2 ≤ sizeLine; decide, [.int i tk, u], .cons ⟨_, rfl⟩ (.cons ru .nil), ⟨_, hT2, rfl, _, rfl⟩⟩
    have I1 : Inv X pins σ (upd H s.heap.objs.size (.tup [.int (i : Nat), x])) { s with heap := h'', toks := tk + 1 } :=
      I.turnedNew (ch := [e, it]) (fun b ob hb q => (sb.2 b (fun z => hb (by simp [z]))).trans (hk b ob (fun z => hb (by simp [z])) (fun z => hb (by simp [z])) q)) hf (Nat.le_refl _) new
    refine ⟨.ref s.heap.objs.size, _, I1, rfl, ⟨_, x, rfl, I.hok.fresh (Nat.le_refl _), rfl, fun ys hy => by rw [Src.inj I hy hq]; exact hx⟩, ⟨⟨u, ?_⟩, Src.it_at (hTo _ _ hSt') fun o q => (sb.2 it (Ne.symm hne)).trans q⟩, fun b hb => ?_⟩
    · have e1 : ((i + 1 : Nat) : Int) = (i : Int) + 1 := by omega
      rw [e1]; exact he'
    · have hb' : b < s.heap.objs.size := by
        have e' : b = e ∨ b = it := by simpa using hb
        rcases e' with z | z
        · rw [z]; exact hel
        · rw [z]; exact hil
      rw [upd_ne (Nat.ne_of_lt hb')]
      exact (hf b hb).1
  done := by
    intro X hP hw hK hc i pins s σ H E I hf st hg
    subst hP hw hK
    obtain ⟨⟨old, he⟩, hit⟩ := st
    obtain ⟨xs, hq, hx⟩ := hg
    obtain ⟨fp, Pq, St, D, hSt, hP, hTo, hmem, hfp⟩ := src_draw I hc hq hit
    obtain ⟨f0, f1, f2, f3, f4, f5⟩ := hf it (by simp)
    exact wpAny_pyNext_enum_endD D he (hx ▸ hSt) fun h' eb => ⟨rfl, I.turned (t' := s.toks) (fun b o hb q => eb b o hb q) f0 f1 f3 f4 f5⟩
  self := fun A i s Q E st h => let ⟨⟨_, he⟩, _⟩ := st; wpAny_pyIter_enum he h
/-! ### zip -/
def Itzz (K : PySem.W.Frag) (S1 S2 : Src) : L2.It :=
  ⟨fun i H => ∃ (xs ys : List V) (x y : V), S1.at_ K H xs ∧ S2.at_ K H ys ∧ xs[i]? = some x ∧ ys[i]? = some y,
    fun i H v H' => ∃ T x y, v = .ref T ∧ H T = none ∧ H' = upd H T (.tup [x, y]) ∧ (∀ xs, S1.at_ K H xs → xs[i]? = some x) ∧ ∀ ys, S2.at_ K H ys → ys[i]? = some y,
    fun i H => ∃ xs ys : List V, S1.at_ K H xs ∧ S2.at_ K H ys ∧ i ≤ xs.length ∧ i ≤ ys.length ∧ (i = xs.length ∨ i = ys.length)⟩
/-- the objects of a zip, apart -/
structure Apart (z TI TO i1 i2 : Addr) (S1 S2 : Src) : Prop where
  TIz : TI ≠ z
  TOz : TO ≠ z
  TITO : TI ≠ TO
  TIi1 : TI ≠ i1
  TIi2 : TI ≠ i2
  zi1 : z ≠ i1
  zi2 : z ≠ i2
  Ti1 : TO ≠ i1
  Ti2 : TO ≠ i2
  i12 : i1 ≠ i2
  has1 : ∀ b, S1.has b → b ≠ z ∧ b ≠ TO ∧ b ≠ i1 ∧ b ≠ i2
  has2 : ∀ b, S2.has b → b ≠ z ∧ b ≠ TO ∧ b ≠ i1 ∧ b ≠ i2
theorem Apart.sep {z TI TO i1 i2 : Addr} {S1 S2 : Src} (D : Apart z TI TO i1 i2 S1 S2) {fp1 fp2 : List Addr} (m1 : i1 ∈ fp1) (m2 : i2 ∈ fp2) (h1 : ∀ b ∈ fp1, b = i1 ∨ S1.has b) (h2 : ∀ b ∈ fp2, b = i2 ∨ S2.has b) : ZipSep2 z TI TO i1 i2 fp1 fp2 where
  TIz := D.TIz
  TOz := D.TOz
  TITO := D.TITO
  TIi1 := D.TIi1
  mem1 := m1
  zf1 := fun q => (h1 z q).elim D.zi1 fun e => (D.has1 z e).1 rfl
  Tf1 := fun q => (h1 TO q).elim D.Ti1 fun e => (D.has1 TO e).2.1 rfl
  TIi2 := D.TIi2
  mem2 := m2
  zf2 := fun q => (h2 z q).elim D.zi2 fun e => (D.has2 z e).1 rfl
  Tf2 := fun q => (h2 TO q).elim D.Ti2 fun e => (D.has2 TO e).2.1 rfl
  sep1_2 := fun q => (h2 i1 q).elim D.i12 fun e => (D.has2 i1 e).2.2.1 rfl
  sep2_1 := fun q => (h1 i2 q).elim (fun e => D.i12 e.symm) fun e => (D.has1 i2 e).2.2.2 rfl
theorem turn_zz {P : Program} {w : World} {K : PySem.W.Frag} {elts : List Expr} {kk : Nat} {tpos : Pos} {S1 S2 : Src} {t1 t2 : Tok} {z TI TO i1 i2 : Addr} (D : Apart z TI TO i1 i2 S1 S2) :
    Turn P w K (.Tuple elts kk tpos) (Itzz K S1 S2) [z, TI, TO, i1, i2] z (fun i h => IsZip h z TI TO .none ∧ IsTupOf2 h TI (.ref i1) (.ref i2) ∧ (∃ x y, IsTupOf2 h TO x y) ∧ S1.it t1 i1 i h ∧ S2.it t2 i2 i h) where
  mem := by simp
  obj := fun i h st c hc => by
    obtain ⟨hz, hTI, ⟨x, y, hTO⟩, h1, h2⟩ := st
    have e' : c = z ∨ c = TI ∨ c = TO ∨ c = i1 ∨ c = i2 := by simpa using hc
    rcases e' with q | q | q | q | q
    · rw [q]; exact ⟨_, hz, fun v q => nomatch q⟩
    · rw [q]; exact ⟨_, hTI, fun v q => nomatch q⟩
    · rw [q]; exact ⟨_, hTO, fun v q => nomatch q⟩
    · obtain ⟨o, e, d, _⟩ := Src.it_obj h1; rw [q]; exact ⟨o, e, d⟩
    · obtain ⟨o, e, d, _⟩ := Src.it_obj h2; rw [q]; exact ⟨o, e, d⟩
  keep := fun i h h' st k => by
    obtain ⟨hz, hTI, ⟨x, y, hTO⟩, h1, h2⟩ := st
    exact ⟨k z (by simp) _ hz, k TI (by simp) _ hTI, ⟨x, y, k TO (by simp) _ hTO⟩, Src.it_at h1 fun o q => k i1 (by simp) o q, Src.it_at h2 fun o q => k i2 (by simp) o q⟩
  item := by
    intro X hP hw hK hc i pins s σ H E I hf st hg
    subst hP hw hK
    obtain ⟨hz, hTI, ⟨x0, y0, hTO⟩, h1, h2⟩ := st
    obtain ⟨xs, ys, x, y, hqx, hqy, hx, hy⟩ := hg
    obtain ⟨fp1, P1, St1, D1, st1, hP1, hT1, m1, f1⟩ := src_draw I hc hqx h1
    obtain ⟨fp2, P2, St2, D2, st2, hP2, hT2, m2, f2⟩ := src_draw I hc hqy h2
    have hzl : z < s.heap.objs.size := Heap.lt_size hz
    have hi1 : i < xs.length := (List.getElem?_eq_some_iff.mp hx).1
    have hi2 : i < ys.length := (List.getElem?_eq_some_iff.mp hy).1
    refine wpAny_pyNext_zipD2_item (D.sep m1 m2 f1 f2) D1 D2 hz hTI hTO st1 st2 hi1 hi2 fun u u2 h' tk pu pu2 z' TO' st1' st2' hT hsz hk => ?_
    obtain ⟨x', hx', ru⟩ := hP1 i u pu
    rw [hx] at hx'
    cases hx'
    obtain ⟨y', hy', ru2⟩ := hP2 i u2 pu2
    rw [hy] at hy'
    cases hy'
    refine ⟨_, rfl, wpAny_letOwnedTupleGo_zip (s := { s with heap := h', toks := tk }) z' fun h'' z'' sb => ?_⟩
    have hT2' : h''.get? s.heap.objs.size = some { cls := .type "tuple", data := .seq #[u, u2] } := (sb.2 _ (Nat.ne_of_gt hzl)).trans hT
    have new : ObjOk X.prog X.w (upd H s.heap.objs.size (.tup [x, y])) h'' s.heap.objs.size (.tup [x, y]) :=
      ⟨by show 2 ≤ sizeLine; decide, [u, u2], .cons ru (.cons ru2 .nil), ⟨_, hT2', rfl, _, rfl⟩⟩
    have I1 : Inv X pins σ (upd H s.heap.objs.size (.tup [x, y])) { s with heap := h'', toks := tk } :=
      I.turnedNew (t' := tk) (ch := [z, TI, TO, i1, i2]) (fun c o hb q => (sb.2 c (fun q' => hb (by simp [q']))).trans (hk c o (fun q' => hb (by simp [q'])) (fun q' => hb (by simp [q'])) (fun q' => hb (by simp [q'])) (fun q' => hb (by simp [q'])) q)) hf (Nat.le_refl _) new
    refine ⟨.ref s.heap.objs.size, _, I1, rfl, ⟨_, x, y, rfl, I.hok.fresh (Nat.le_refl _), rfl, fun l hl => by rw [Src.inj I hl hqx]; exact hx, fun l hl => by rw [Src.inj I hl hqy]; exact hy⟩, ⟨z'', ?_, ⟨u, u2, ?_⟩, ?_, ?_⟩, fun c hcm => ?_⟩
    · exact (sb.2 _ D.TIz).trans (hk _ _ D.TIz D.TITO D.TIi1 D.TIi2 hTI)
    · exact (sb.2 _ D.TOz).trans TO'
    · exact Src.it_at (hT1 _ _ st1') fun o q => (sb.2 _ (Ne.symm D.zi1)).trans q
    · exact Src.it_at (hT2 _ _ st2') fun o q => (sb.2 _ (Ne.symm D.zi2)).trans q
    · have hlt : c < s.heap.objs.size := by
        have e' : c = z ∨ c = TI ∨ c = TO ∨ c = i1 ∨ c = i2 := by simpa using hcm
        rcases e' with q | q | q | q | q
        · rw [q]; exact hzl
        · rw [q]; exact Heap.lt_size hTI
        · rw [q]; exact Heap.lt_size hTO
        · rw [q]; obtain ⟨_, e1, _⟩ := Src.it_obj h1; exact Heap.lt_size e1
        · rw [q]; obtain ⟨_, e2, _⟩ := Src.it_obj h2; exact Heap.lt_size e2
      rw [upd_ne (Nat.ne_of_lt hlt)]
      exact (hf c hcm).1
  done := by
    intro X hP hw hK hc i pins s σ H E I hf st hg
    subst hP hw hK
    obtain ⟨hz, hTI, ⟨x0, y0, hTO⟩, h1, h2⟩ := st
    obtain ⟨xs, ys, hqx, hqy, l1, l2, hend⟩ := hg
    obtain ⟨fp1, P1, St1, D1, st1, hP1, hT1, m1, f1⟩ := src_draw I hc hqx h1
    obtain ⟨fp2, P2, St2, D2, st2, hP2, hT2, m2, f2⟩ := src_draw I hc hqy h2
    refine wpAny_pyNext_zipD2_end (D.sep m1 m2 f1 f2) D1 D2 hz hTI hTO st1 st2 l1 l2 hend fun h' tk hk => ⟨rfl, ?_⟩
    exact I.turnedL (t' := tk) (ch := [z, TI, TO, i1, i2]) (fun c o hb q =>
      hk c o (fun q' => hb (by simp [q'])) (fun q' => hb (by simp [q'])) (fun q' => hb (by simp [q'])) (fun q' => hb (by simp [q'])) q) hf
  self := fun A i s Q E st h => wpAny_pyIter_zip st.1 h
/-! ### their making -/
def srcObj (t : Tok) : Src → Obj
  | .list a => { cls := .type "list_iterator", data := .fields #[.ref a, .int 0 0] }
  | .tup a => { cls := .type "tuple_iterator", data := .fields #[.ref a, .int 0 0] }
  | .txt z => { cls := .type (strIterType z), data := .fields #[.str z t, .int 0 0] }
theorem src_begins (I : Inv X pins σ H s) {S : Src} {xs : List V} {u : Value} (hs : S.at_ X.K H xs) (r : RelV S.val u) : ∃ t HH, Begins u (srcObj t S) HH ∧ HH s.heap ∧ (∀ h it, h.get? it = some (srcObj t S) → S.it t it 0 h) ∧ ∀ b, S.has b → b < s.heap.objs.size := by
  cases S with
  | list a =>
    obtain ⟨its, rv, p, hz⟩ := I.list hs
    cases r
    exact ⟨0, _, begins_list a its.toArray, p.isList, fun h it e => ⟨_, e, rfl, rfl⟩, fun b e => e ▸ p.lt⟩
  | tup a =>
    obtain ⟨its, rv, p, hz⟩ := I.tuple hs
    cases r
    obtain ⟨o, ho, _⟩ := id p
    exact ⟨0, _, begins_tuple a its.toArray, p, fun h it e => ⟨_, e, rfl, rfl⟩, fun b e => e ▸ Heap.lt_size ho⟩
  | txt z =>
    obtain ⟨t, rfl⟩ := r
    exact ⟨t, _, begins_text z t, trivial, fun h it e => ⟨_, e, rfl, rfl⟩, fun b e => e.elim⟩
end
set_option maxHeartbeats 1000000 in
theorem meets_enumerate_new1 {v : Value} {o : Obj} {H : Heap → Prop} (B : Begins v o H) :
    Meets (Builtin.«enumerate.__new__» ⟨[.type "enumerate", v], []⟩) (fun _ R s => H s.heap ∧
      R (.ok (.ret (.ref (s.heap.push o).objs.size))) { s with heap := (s.heap.push o).push { cls := .type "enumerate", data := .fields #[.none, .bool false, .ref s.heap.objs.size, rawInt 0, .none, .none] } }) :=
  .of_wp fun prog w A R s h => by
    obtain ⟨hp, g, d, tk, os⟩ := s; obtain ⟨h1, h⟩ := h
    have hsub := sub_enumerate
    have q1 : ∀ {A' : Around} {E : Value → Shared → Prop} {Q : Value → Shared → Prop}, Q (.ref hp.objs.size) ⟨hp.push o, g, d, tk, os⟩ → wpAny (model prog w) A' (pyIter v) Q E ⟨hp, g, d, tk, os⟩ :=
      fun q => B.iter prog w _ _ ⟨hp, g, d, tk, os⟩ _ h1 q
    wp_walk using q1
    refine wpAny_stack_any fun st => wpAny_pure ?_
    split
    · rename_i c _ _ _ _ _
      cases (c == Value.type "enumerate")
      · wp_walk using q1
        exact ⟨_, rfl, h⟩
      · wp_walk using q1
        exact ⟨_, rfl, h⟩
    · wp_walk using q1
      exact ⟨_, rfl, h⟩
theorem enum_begins1 {prog : Program} {w : World} {A : Around} {E : Value → Shared → Prop} {s : Shared} {v : Value} {o : Obj} {H : Heap → Prop} {Q : Value → Shared → Prop} (B : Begins v o H) (h1 : H s.heap)
    (h : ∀ h', IsEnum h' (s.heap.objs.size + 1) s.heap.objs.size 0 .none → h'.get? s.heap.objs.size = some o → h'.objs.size = s.heap.objs.size + 2 →
      (∀ b o, s.heap.get? b = some o → h'.get? b = some o) → Q (.ref (s.heap.objs.size + 1)) { s with heap := h' }) :
    wpAny (model prog w) A (call (.type "enumerate") [v]) Q E s := by
  refine callType_new F.called_enumerate (by decide) (F.typeCall_enumerate_1 _) (F.newCall_enumerate_1 _) (fun obj => F.args_object_init_2 obj _) F.entry_enumerate_new
    (meets_enumerate_new1 B) ⟨h1, ?_⟩
  have hz : (s.heap.push o).objs.size = s.heap.objs.size + 1 := Heap.size_push ..
  show _ ∧ _
  rw [hz]
  have he : IsEnum ((s.heap.push o).push { cls := .type "enumerate", data := .fields #[.none, .bool false, .ref s.heap.objs.size, rawInt 0, .none, .none] }) (s.heap.objs.size + 1) s.heap.objs.size 0 .none := by
    have := Heap.get?_push_size (s.heap.push o) (o := { cls := .type "enumerate", data := .fields #[.none, .bool false, .ref s.heap.objs.size, rawInt 0, .none, .none] }) rfl
    rw [hz] at this; exact this
  refine ⟨⟨_, he, rfl⟩, h _ he (Heap.get?_push_of_some _ (Heap.get?_push_size _ B.free)) (by rw [Heap.size_push, hz]) fun b o x => Heap.get?_push_of_some _ (Heap.get?_push_of_some _ x)⟩
theorem lt_ne {b n : Nat} (h : b < n) (k : Nat) : b ≠ n + k := Nat.ne_of_lt (Nat.lt_of_lt_of_le h (Nat.le_add_right n k))
theorem apart_new (n : Nat) {S1 S2 : Src} (l1 : ∀ b : Nat, S1.has b → b < n) (l2 : ∀ b : Nat, S2.has b → b < n) : Apart (n + 4) (n + 2) (n + 3) n (n + 1) S1 S2 where
  TIz := fun (z : (n + 2 : Nat) = n + 4) => by omega
  TOz := fun (z : (n + 3 : Nat) = n + 4) => by omega
  TITO := fun (z : (n + 2 : Nat) = n + 3) => by omega
  TIi1 := fun (z : (n + 2 : Nat) = n) => by omega
  TIi2 := fun (z : (n + 2 : Nat) = n + 1) => by omega
  zi1 := fun (z : (n + 4 : Nat) = n) => by omega
  zi2 := fun (z : (n + 4 : Nat) = n + 1) => by omega
  Ti1 := fun (z : (n + 3 : Nat) = n) => by omega
  Ti2 := fun (z : (n + 3 : Nat) = n + 1) => by omega
  i12 := fun (z : (n : Nat) = n + 1) => by omega
  has1 := fun b hb => by
    have h : (b : Nat) < n := l1 b hb
    exact ⟨lt_ne h 4, lt_ne h 3, Nat.ne_of_lt h, lt_ne h 1⟩
  has2 := fun b hb => by
    have h : (b : Nat) < n := l2 b hb
    exact ⟨lt_ne h 4, lt_ne h 3, Nat.ne_of_lt h, lt_ne h 1⟩
/-- enumerate(e), the target a tuple -/
theorem pi_en {X : Cx} {e : Expr} {ta : TA} {p pos tpos : Pos} {elts : List Expr} {kk : Nat} (hg : Gl X "enumerate") (hm : X.mg "enumerate" = none) (ha : PA X [e] ta) (hs : starEach [e] X.env = (false, eval e X.env) :: starEach [] X.env) :
    PI X (.Tuple elts kk tpos) (.Call (.Name "enumerate" p) [e] [] pos) (fun σ H R => ta σ H fun vs H1 => ∃ (S : Src) (xs : List V), vs = [S.val] ∧ S.at_ X.K H1 xs ∧ R (Iten X.K S) H1) := by
  refine ⟨fun pins s σ H R I h => ?_⟩
  refine Call_ (ld_blt I hg hm boot_enumerate (PyProof.Rows.callWith_type1 (thn (ha.run pos pins s σ H _ I h) fun us s1 ⟨vs, H1, I1, r1, q1⟩ => ?_) hs rfl))
  obtain ⟨S, xs, ex, hq, q⟩ := q1
  subst ex
  cases r1 with
  | cons r rr =>
    cases rr
    obtain ⟨t, HH, B, hH, hi, hl⟩ := src_begins I1 hq r
    refine enum_begins1 B hH fun h' he hit hsz hk => wpAny_pyIter_enum he ?_
    have I2 : Inv X pins σ H1 { s1 with heap := h' } := I1.kept (t' := s1.toks) hk
    refine ⟨s1.heap.objs.size + 1, [s1.heap.objs.size + 1, s1.heap.objs.size], _, _, H1, rfl, I2, turn_en S t (s1.heap.objs.size + 1) s1.heap.objs.size (Nat.succ_ne_self _) (fun z => Nat.lt_irrefl _ (Nat.lt_of_lt_of_le (hl _ z) (Nat.le_add_right _ 1))), ⟨⟨.none, he⟩, hi _ _ hit⟩, fun b hb => ?_, q⟩
    have e' : b = s1.heap.objs.size + 1 ∨ b = s1.heap.objs.size := by simpa using hb
    have hle : s1.heap.objs.size ≤ b := by
      rcases e' with z | z
      · rw [z]; exact Nat.le_add_right _ _
      · rw [z]; exact Nat.le_refl _
    exact I1.fpOk hle (I1.hok.fresh hle)
theorem pi_zz {X : Cx} {e e2 : Expr} {ta : TA} {p pos tpos : Pos} {elts : List Expr} {kk : Nat} (hg : Gl X "zip") (hm : X.mg "zip" = none) (ha : PA X [e, e2] ta)
    (hs : starEach [e, e2] X.env = (false, eval e X.env) :: starEach [e2] X.env) (hpl : (backTo pos (starEach [e2] X.env)).any (·.1) = false) :
    PI X (.Tuple elts kk tpos) (.Call (.Name "zip" p) [e, e2] [] pos) (fun σ H R => ta σ H fun vs H1 => ∃ (S1 S2 : Src) (xs ys : List V), vs = [S1.val, S2.val] ∧ S1.at_ X.K H1 xs ∧ S2.at_ X.K H1 ys ∧ R (Itzz X.K S1 S2) H1) := by
  refine ⟨fun pins s σ H R I h => ?_⟩
  refine Call_ (ld_blt I hg hm PyProof.Rows.boot_zip (PyProof.Rows.callWith_type1 (thn (ha.run pos pins s σ H _ I h) fun us s1 ⟨vs, H1, I1, r1, q1⟩ => ?_) hs hpl))
  obtain ⟨S1, S2, xs, ys, ex, hqx, hqy, q⟩ := q1
  subst ex
  obtain ⟨u1, u2, rfl, ru1, ru2⟩ := vals2 r1
  obtain ⟨t1, HH1, B1, hH1, hi1, hl1⟩ := src_begins I1 hqx ru1
  obtain ⟨t2, HH2, B2, hH2, hi2, hl2⟩ := src_begins I1 hqy ru2
  refine zip_begins2 B1 B2 hH1 hH2 fun h' hz hTI hTO h1 h2 hsz hk => wpAny_pyIter_zip hz ?_
  have I2 : Inv X pins σ H1 { s1 with heap := h' } := I1.kept (t' := s1.toks) hk
  have D := apart_new s1.heap.objs.size hl1 hl2
  refine ⟨s1.heap.objs.size + 4, [s1.heap.objs.size + 4, s1.heap.objs.size + 2, s1.heap.objs.size + 3, s1.heap.objs.size, s1.heap.objs.size + 1], _, _, H1, rfl, I2, turn_zz D, ⟨hz, hTI, ⟨_, _, hTO⟩, hi1 _ _ h1, hi2 _ _ h2⟩, fun c hcm => ?_, q⟩
  have e' : c = s1.heap.objs.size + 4 ∨ c = s1.heap.objs.size + 2 ∨ c = s1.heap.objs.size + 3 ∨ c = s1.heap.objs.size ∨ c = s1.heap.objs.size + 1 := by simpa using hcm
  have hle : s1.heap.objs.size ≤ c := by
    rcases e' with z | z | z | z | z
    · rw [z]; exact Nat.le_add_right _ _
    · rw [z]; exact Nat.le_add_right _ _
    · rw [z]; exact Nat.le_add_right _ _
    · rw [z]; exact Nat.le_refl _
    · rw [z]; exact Nat.le_add_right _ _
  exact I1.fpOk hle (I1.hok.fresh hle)
end Mi
set_option Elab.async false
set_option linter.all false
set_option maxRecDepth 100000
set_option maxHeartbeats 4000000
/-! Mk: what a for walks over. -/
namespace Mi
open PySem PySem.Spec PyProof.Rows L2
mutual
theorem same_eq : ∀ {x y : D}, same x y = true → x = y
  | .non, y, h => by cases y <;> first | rfl | cases h
  | .bl a, y, h => by cases y <;> first | (rw [show a = _ from by simpa [same] using h]; done) | cases h
  | .int a, y, h => by cases y <;> first | (rw [show a = _ from by simpa [same] using h]; done) | cases h
  | .str a, y, h => by cases y <;> first | (rw [show a = _ from by simpa [same] using h]; done) | cases h
  | .scr a, y, h => by cases y <;> first | (rw [show a = _ from by simpa [same] using h]; done) | cases h
  | .ref a, y, h => by cases y <;> first | (rw [show a = _ from by simpa [same] using h]; done) | cases h
  | .clo a, y, h => by cases y <;> first | (rw [show a = _ from by simpa [same] using h]; done) | cases h
  | .tup k xs, y, h => by
    cases y with
    | tup l ys =>
      simp only [same, Bool.and_eq_true, beq_iff_eq] at h
      rw [h.1, sames_eq h.2]
    | _ => cases h
  | .lst xs, y, h => by
    cases y with
    | lst ys => rw [sames_eq (xs := xs) (ys := ys) h]
    | _ => cases h
  | .dic ks vs, y, h => by
    cases y with
    | dic ls ws =>
      simp only [same, Bool.and_eq_true] at h
      rw [sames_eq h.1, sames_eq h.2]
    | _ => cases h
  | .ins c ns vs, y, h => by
    cases y with
    | ins d ms ws =>
      simp only [same, Bool.and_eq_true, beq_iff_eq] at h
      rw [h.1.1, h.1.2, sames_eq h.2]
    | _ => cases h
theorem sames_eq : ∀ {xs ys : List D}, sames xs ys = true → xs = ys
  | [], ys, h => by cases ys <;> first | rfl | cases h
  | x :: xs, ys, h => by
    cases ys with
    | nil => cases h
    | cons y ys =>
      simp only [sames, Bool.and_eq_true] at h
      rw [same_eq h.1, sames_eq h.2]
end
mutual
theorem same_refl : ∀ x : D, same x x = true
  | .non => rfl
  | .bl a => by simp [same]
  | .int a => by simp [same]
  | .str a => by simp [same]
  | .scr a => by simp [same]
  | .ref a => by simp [same]
  | .clo a => by simp [same]
  | .tup k xs => by simp [same, sames_refl xs]
  | .lst xs => by simp [same, sames_refl xs]
  | .dic ks vs => by simp [same, sames_refl ks, sames_refl vs]
  | .ins c ns vs => by simp [same, sames_refl vs]
theorem sames_refl : ∀ xs : List D, sames xs xs = true
  | [] => rfl
  | x :: xs => by simp [sames, same_refl x, sames_refl xs]
end
def Zx.withs (Z : Zx) (L : List Addr) : Zx := { Z with ex := L ++ Z.ex }
section
variable {Z : Zx} {ρ ρ0 : List Addr} {H H0 : Hp} {μ : Mu} {d : D} {v : V} {L : List Addr}
theorem Out.later {a : Addr} {o : HO} (x : Ext ρ0 H0 ρ H) (hL : ∀ a ∈ L, H0 a = none) (e : H0 a = some o) (n : Out Z ρ0 a) : Out (Z.withs L) ρ a :=
  ⟨x.out e n.1, fun z => (List.mem_append.mp z).elim (fun q => by rw [hL a q] at e; cases e) n.2⟩
theorem rd_some {a : Addr} {u : HO} (r : Rd H a u) : ∃ o, H a = some o := by
  rcases r with r | ⟨o, r⟩
  · exact ⟨_, r⟩
  · exact ⟨_, r⟩
mutual
theorem Rep.later (x : Ext ρ0 H0 ρ H) (hL : ∀ a ∈ L, H0 a = none) : ∀ {d : D} {v : V}, Rep Z ρ0 H0 d v → Rep (Z.withs L) ρ H d v
  | _, _, .non => .non
  | _, _, .bl b => .bl b
  | _, _, .int i => .int i
  | _, _, .str s => .str s
  | _, _, .tup h n r => .tup (h.imp (fun q => ⟨(x.rd q.1 q.2 (fun ps z => by cases z)).1, let ⟨_, e⟩ := rd_some q.1; q.2.later x hL e⟩) id) (fun k => (n k).imp (fun ⟨o, u, e, q, m⟩ => ⟨o, u, x.keep _ _ e m.1 (fun ps z => by cases z), q, m.later x hL e⟩) id) (Reps.later x hL r)
  | _, _, .lst h n r => .lst (x.keep _ _ h n.1 (fun ps z => by cases z)) (n.later x hL h) (Reps.later x hL r)
  | _, _, .scr h => .scr (h.imp (fun q => ⟨(x.rd q.1 q.2 (fun ps z => by cases z)).1, let ⟨_, e⟩ := rd_some q.1; q.2.later x hL e⟩) id)
  | _, _, .dic h n r => .dic (x.rd h n (fun ps z => by cases z)).1 (let ⟨_, e⟩ := rd_some h; n.later x hL e) (Reps.later x hL r)
  | _, _, .clo h1 h2 n1 n2 t1 t2 => .clo (x.keep _ _ h1 n1.1 t1) (x.keep _ _ h2 n2.1 t2) (n1.later x hL h1) (n2.later x hL h2) t1 t2
  | _, _, .ref h => .ref (by
      obtain ⟨t, e⟩ := x.pre
      subst e
      rw [List.getElem?_append_left (List.getElem?_eq_some_iff.mp h).1]
      exact h)
theorem Reps.later (x : Ext ρ0 H0 ρ H) (hL : ∀ a ∈ L, H0 a = none) : ∀ {ds : List D} {vs : List V}, Reps Z ρ0 H0 ds vs → Reps (Z.withs L) ρ H ds vs
  | _, _, .nil => .nil
  | _, _, .cons a r => .cons (Rep.later x hL a) (Reps.later x hL r)
end
/-- what is walked over, at any later time at which the cells of ws stand -/
def SrcOk (Z : Zx) (ρ0 : List Addr) (H0 : Hp) (S : Src) (ds : List D) (ws : Wt) : Prop := ∀ (L : List Addr) (ρ : List Addr) (H : Hp) (μ : Mu), (∀ a ∈ L, H0 a = none) → Ext ρ0 H0 ρ H → MuOk (Z.withs L) ρ H μ → wOk ws μ = true →
  ∃ xs, S.at_ Z.K H xs ∧ Reps (Z.withs L) ρ H ds xs
theorem chars_rep (t : T) : Reps Z ρ H (t.map fun c => D.str [c]) ((mkS t).cps.toList.map fun c => V.str ⟨#[c]⟩) := by
  show Reps Z ρ H (t.map fun c => D.str [c]) (t.toArray.toList.map fun c => V.str ⟨#[c]⟩)
  rw [List.toList_toArray]
  induction t with
  | nil => exact .nil
  | cons c t ih => exact .cons (.str [c]) ih
theorem src_of (m : MuOk Z ρ0 H0 μ) (r : Rep Z ρ0 H0 d v) {ds : List D} {ws : Wt} (h : seqIt μ d = some (ds, ws)) : ∃ S : Src, v = S.val ∧ SrcOk Z ρ0 H0 S ds ws ∧ (∃ xs, S.at_ Z.K H0 xs) ∧
    (ds.length ≤ sizeLine ∨ ∀ t, d ≠ .str t) ∧ ((∃ t, d = .str t ∧ S = .txt (mkS t)) ∨ (∃ k xs, d = .tup k xs ∧ ∃ a, S = .tup a) ∨ ((∃ xs, d = .lst xs) ∨ ∃ i, d = .ref i) ∧ ∃ a, S = .list a) := by
  cases r with
  | str t =>
    have h' : (if t.length ≤ LINE then some (t.map fun c => D.str [c], ([] : Wt)) else none) = some (ds, ws) := h
    split at h'
    · rename_i hl
      cases h'
      exact ⟨.txt (mkS t), rfl, fun L ρ H μ _ _ _ _ => ⟨_, rfl, chars_rep t⟩, ⟨_, rfl⟩, .inl (by rw [List.length_map]; exact line_le hl), .inl ⟨t, rfl, rfl⟩⟩
    · cases h'
  | tup h1 h2 h3 =>
    cases h
    rename_i k a xs
    refine ⟨.tup a, rfl, fun L ρ H μ hL x m' _ => ⟨xs, ?_, h3.later x hL⟩, ⟨xs, kt_sq h1⟩, .inr (fun t z => by cases z), .inr (.inl ⟨k, _, rfl, a, rfl⟩)⟩
    rcases h1 with h1 | h1
    · exact .inl (x.rd h1.1 h1.2 (fun ps z => by cases z)).1
    · exact .inr h1
  | lst h1 h2 h3 =>
    cases h
    rename_i a xs
    exact ⟨.list a, rfl, fun L ρ H μ hL x m' _ => ⟨xs, .of (x.keep _ _ h1 h2.1 (fun ps z => by cases z)), h3.later x hL⟩, ⟨xs, .of h1⟩, .inr (fun t z => by cases z), .inr (.inr ⟨.inl ⟨_, rfl⟩, a, rfl⟩)⟩
  | @ref i a h1 =>
    have h' : (match μ[i]? with | some (.lst xs) => some (xs, [(i, xs)]) | _ => none) = some (ds, ws) := h
    cases e : μ[i]? with
    | none => rw [e] at h'; cases h'
    | some c =>
      rw [e] at h'
      cases c with
      | lst xs =>
        cases h'
        obtain ⟨vs, q1, q2⟩ := m.cell i a _ h1 e
        refine ⟨.list a, rfl, fun L ρ H μ' hL x m' hw => ?_, ⟨vs, .of q1⟩, .inr (fun t z => by cases z), .inr (.inr ⟨.inr ⟨i, rfl⟩, a, rfl⟩)⟩
        have h2 : ρ[i]? = some a := by
          obtain ⟨t, e⟩ := x.pre
          subst e
          rw [List.getElem?_append_left (List.getElem?_eq_some_iff.mp h1).1]
          exact h1
        unfold wOk at hw
        simp only [List.all_cons, List.all_nil, Bool.and_true] at hw
        split at hw
        · rename_i ys e2
          obtain rfl := sames_eq hw
          obtain ⟨us, p1, p2⟩ := m'.cell i a _ h2 e2
          exact ⟨us, .of p1, p2⟩
        · cases hw
      | _ => cases h'
  | _ => cases h
/-! ### walks -/
def Wlk (Z : Zx) (ρ0 : List Addr) (H0 : Hp) (J : L2.It) (ds : List D) (ws : Wt) : Prop := ∀ (L : List Addr) (i : Nat) (ρ : List Addr) (H : Hp) (μ : Mu), (∀ a ∈ L, H0 a = none) → Ext ρ0 H0 ρ H → MuOk (Z.withs L) ρ H μ → wOk ws μ = true →
  (∀ d, ds[i]? = some d → J.go i H ∧ ∀ x H', J.yld i H x H' → ∃ ρ', Ext ρ H ρ' H' ∧ MuOk (Z.withs L) ρ' H' μ ∧ Rep (Z.withs L) ρ' H' d x) ∧ (i = ds.length → J.stop i H)
def seqJ (K : PySem.W.Frag) : Src → L2.It
  | .list a => Itl K a
  | .tup a => Itt K a
  | .txt z => Its z
theorem wlk_seq {S : Src} {ds : List D} {ws : Wt} (h : SrcOk Z ρ0 H0 S ds ws) : Wlk Z ρ0 H0 (seqJ Z.K S) ds ws := by
  intro L i ρ H μ hL x m hw
  obtain ⟨xs, hs, rs⟩ := h L ρ H μ hL x m hw
  have hl := rs.length
  refine ⟨fun d hd => ?_, fun e => ?_⟩
  · obtain ⟨w, hw', rw'⟩ := rs.get hd
    cases S with
    | list a => exact ⟨⟨xs, w, hs, hw'⟩, fun x' H' y => ⟨ρ, y.1 ▸ .refl _ _, y.1 ▸ m, by
        have := y.2 xs hs
        rw [hw'] at this
        cases this
        rw [y.1]; exact rw'⟩⟩
    | tup a => exact ⟨⟨xs, w, hs, hw'⟩, fun x' H' y => ⟨ρ, y.1 ▸ .refl _ _, y.1 ▸ m, by
        have := y.2 xs hs
        rw [hw'] at this
        cases this
        rw [y.1]; exact rw'⟩⟩
    | txt z =>
      have hs' : xs = z.cps.toList.map fun c => V.str ⟨#[c]⟩ := hs
      subst hs'
      have hi : i < z.cps.size := by
        have := (List.getElem?_eq_some_iff.mp hw').1
        simpa using this
      refine ⟨hi, fun x' H' y => ⟨ρ, y.1 ▸ .refl _ _, y.1 ▸ m, ?_⟩⟩
      obtain ⟨y1, c, h1, rfl⟩ := y
      rw [y1]
      have : w = V.str ⟨#[c]⟩ := by
        rw [List.getElem?_map, Array.getElem?_toList, h1] at hw'
        exact (Option.some.inj hw').symm
      rw [← this]; exact rw'
  · cases S with
    | list a => exact ⟨xs, hs, by omega⟩
    | tup a => exact ⟨xs, hs, by omega⟩
    | txt z =>
      have hs' : xs = z.cps.toList.map fun c => V.str ⟨#[c]⟩ := hs
      subst hs'
      show z.cps.size ≤ i
      simp at hl
      omega
theorem enumL_get (ds : List D) : ∀ (k i : Nat), (enumL k ds)[i]? = (ds[i]?).map fun d => .tup false [.int ((k + i : Nat) : Int), d] := by
  induction ds with
  | nil => intro k i; simp [enumL]
  | cons d ds ih =>
    intro k i
    unfold enumL
    cases i with
    | zero => simp
    | succ i => rw [List.getElem?_cons_succ, ih, List.getElem?_cons_succ, show k + 1 + i = k + (i + 1) by omega]
theorem enumL_len (ds : List D) (k : Nat) : (enumL k ds).length = ds.length := by
  induction ds generalizing k with
  | nil => rfl
  | cons d ds ih => simp [enumL, ih]
theorem zipL_get : ∀ (ds es : List D) (i : Nat), (zipL ds es)[i]? = (ds[i]?).bind fun d => (es[i]?).map fun e => .tup false [d, e]
  | [], es, i => by simp [zipL]
  | d :: ds, [], i => by simp [zipL]
  | d :: ds, e :: es, i => by
    unfold zipL
    cases i with
    | zero => simp
    | succ i => simp [zipL_get ds es i]
theorem zipL_len : ∀ (ds es : List D), (zipL ds es).length = min ds.length es.length
  | [], es => by simp [zipL]
  | d :: ds, [] => by simp [zipL]
  | d :: ds, e :: es => by simp [zipL, zipL_len ds es]
theorem wlk_enum {S : Src} {ds : List D} {ws : Wt} (h : SrcOk Z ρ0 H0 S ds ws) : Wlk Z ρ0 H0 (Iten Z.K S) (enumL 0 ds) ws := by
  intro L i ρ H μ hL x m hw
  obtain ⟨xs, hs, rs⟩ := h L ρ H μ hL x m hw
  have hl := rs.length
  refine ⟨fun d hd => ?_, fun e => ⟨xs, hs, by rw [enumL_len] at e; omega⟩⟩
  rw [enumL_get] at hd
  obtain ⟨e, he, rfl⟩ := Option.map_eq_some_iff.mp hd
  obtain ⟨w, hw', rw'⟩ := rs.get he
  refine ⟨⟨xs, w, hs, hw'⟩, fun x' H' y => ?_⟩
  obtain ⟨T, w2, rfl, hT, rfl, hx⟩ := y
  have := hx xs hs
  rw [hw'] at this
  cases this
  have x2 := Ext.new1 (o := .tup [.int (i : Nat), w]) ρ hT
  obtain ⟨m2, o2⟩ := m.new1 (o := .tup [.int (i : Nat), w]) hT
  refine ⟨ρ, x2, m2, .tup (.inl ⟨.inl upd_same, o2⟩) (fun z => by cases z) (.cons ?_ (.cons (rw'.ext x2) .nil))⟩
  rw [Nat.zero_add]
  exact .int _
theorem wlk_zip {S1 S2 : Src} {ds es : List D} {ws vs : Wt} (h1 : SrcOk Z ρ0 H0 S1 ds ws) (h2 : SrcOk Z ρ0 H0 S2 es vs) : Wlk Z ρ0 H0 (Itzz Z.K S1 S2) (zipL ds es) (ws ++ vs) := by
  intro L i ρ H μ hL x m hw
  have hw1 : wOk ws μ = true := by
    unfold wOk at hw ⊢
    rw [List.all_append, Bool.and_eq_true] at hw
    exact hw.1
  have hw2 : wOk vs μ = true := by
    unfold wOk at hw ⊢
    rw [List.all_append, Bool.and_eq_true] at hw
    exact hw.2
  obtain ⟨xs, hs, rs⟩ := h1 L ρ H μ hL x m hw1
  obtain ⟨ys, hs2, rs2⟩ := h2 L ρ H μ hL x m hw2
  have hl := rs.length
  have hl2 := rs2.length
  refine ⟨fun d hd => ?_, fun e => ⟨xs, ys, hs, hs2, by rw [zipL_len] at e; omega, by rw [zipL_len] at e; omega, by rw [zipL_len] at e; omega⟩⟩
  rw [zipL_get] at hd
  obtain ⟨a, ha, hd⟩ := Option.bind_eq_some_iff.mp hd
  obtain ⟨b, hb, rfl⟩ := Option.map_eq_some_iff.mp hd
  obtain ⟨w, hw', rw'⟩ := rs.get ha
  obtain ⟨u, hu', ru'⟩ := rs2.get hb
  refine ⟨⟨xs, ys, w, u, hs, hs2, hw', hu'⟩, fun x' H' y => ?_⟩
  obtain ⟨T, w2, u2, rfl, hT, rfl, hx, hy⟩ := y
  have e1 := hx xs hs
  have e2 := hy ys hs2
  rw [hw'] at e1
  rw [hu'] at e2
  cases e1
  cases e2
  have x2 := Ext.new1 (o := .tup [w, u]) ρ hT
  obtain ⟨m2, o2⟩ := m.new1 (o := .tup [w, u]) hT
  exact ⟨ρ, x2, m2, .tup (.inl ⟨.inl upd_same, o2⟩) (fun z => by cases z) (.cons (rw'.ext x2) (.cons (ru'.ext x2) .nil))⟩
theorem wlk_range (lo : Int) (n : Nat) : Wlk Z ρ0 H0 (Itr lo n) ((List.range n).map fun (k : Nat) => .int (lo + k)) [] := by
  intro L i ρ H μ hL x m hw
  refine ⟨fun d hd => ?_, fun e => ?_⟩
  · rw [List.getElem?_map] at hd
    obtain ⟨k, hk, rfl⟩ := Option.map_eq_some_iff.mp hd
    have hi : i < n := by
      have := (List.getElem?_eq_some_iff.mp hk).1
      simpa using this
    have hk' : k = i := by
      rw [List.getElem?_range hi] at hk
      exact (Option.some.inj hk).symm
    subst hk'
    refine ⟨hi, fun x' H' y => ⟨ρ, y.1 ▸ .refl _ _, y.1 ▸ m, ?_⟩⟩
    obtain ⟨y1, rfl⟩ := y
    rw [y1]
    exact .int _
  · show n ≤ i
    simp at e
    omega
theorem wlk_down (lo : Int) (n : Nat) : Wlk Z ρ0 H0 (Itc lo (-1) n) ((List.range n).map fun (k : Nat) => .int (lo - k)) [] := by
  intro L i ρ H μ hL x m hw
  refine ⟨fun d hd => ?_, fun e => ?_⟩
  · rw [List.getElem?_map] at hd
    obtain ⟨k, hk, rfl⟩ := Option.map_eq_some_iff.mp hd
    have hi : i < n := by
      have := (List.getElem?_eq_some_iff.mp hk).1
      simpa using this
    have hk' : k = i := by
      rw [List.getElem?_range hi] at hk
      exact (Option.some.inj hk).symm
    subst hk'
    refine ⟨hi, fun x' H' y => ⟨ρ, y.1 ▸ .refl _ _, y.1 ▸ m, ?_⟩⟩
    obtain ⟨y1, rfl⟩ := y
    rw [y1, show lo + (k : Int) * -1 = lo - k by omega]
    exact .int _
  · show n ≤ i
    simp at e
    omega
end
end Mi
set_option Elab.async false
set_option linter.all false
set_option maxRecDepth 100000
set_option maxHeartbeats 4000000
/-! Ml: iteration, targets. -/
namespace Mi
open PySem PySem.Spec PyProof.Rows L2
def Es.len : Es → Nat
  | .nil => 0
  | .cons _ r => r.len + 1
theorem evs_length (Φ : Env) : ∀ (es : Es) (σ' : Sl) (μ : Mu) (ds : List D) (μ' : Mu), evs Φ es σ' μ = .ok ds μ' → ds.length = es.len
  | .nil, σ', μ, ds, μ', h => by unfold evs at h; cases h; rfl
  | .cons e r, σ', μ, ds, μ', h => by
    unfold evs at h
    cases h1 : ev Φ e σ' μ with
    | ok x μ1 =>
      rw [h1] at h
      simp only [R.bnd] at h
      cases h2 : evs Φ r σ' μ1 with
      | ok xs μ2 =>
        rw [h2] at h
        cases h
        simp [Es.len, evs_length Φ r _ _ _ _ h2]
      | exc c μ2 => rw [h2] at h; cases h
      | no => rw [h2] at h; cases h
    | exc c μ2 => rw [h1] at h; cases h
    | no => rw [h1] at h; cases h
/-- a walk's reading -/
abbrev tI (Z : Zx) (W : WX) (cls : Nat → Value) (f : Sl → Mu → R (List D × Wt)) : TI := fun σ H R => tG Z W cls f (fun p ρ1 H1 _ => ∀ J, Wlk Z ρ1 H1 J p.1 p.2 → p.1.length ≤ sizeLine → R J H1) σ H
section
variable {C : Cfg} {X : Cx} {Z0 Z : Zx} {Φ : Env} {cls : Nat → Value} {W : WX} {α β : Type}
variable {ρ : List Addr} {H : Hp} {μ : Mu} {σ' : Sl} {σ : L2.St} {Q : VK}
variable {a b c ast tg : Expr} {ea eb ec : E} {pos : Pos} {as : List Expr} {es : Es}
theorem src_len {pins : List (Addr × Obj)} {s : Shared} (I : Inv X pins σ H s) {S : Src} {xs : List V} (h : S.at_ X.K H xs) (ht : ∀ z, S ≠ .txt z) : xs.length ≤ sizeLine := by
  cases S with
  | list a =>
    obtain ⟨_, _, _, hz⟩ := I.list h
    exact hz
  | tup a =>
    obtain ⟨_, _, _, hz⟩ := I.tuple h
    exact hz
  | txt z => exact absurd rfl (ht z)
/-- the iterator's wish, with what the heap's rules add -/
theorem pie_of {tg : Expr} {pins : List (Addr × Obj)} {R R' : L2.It → Hp → Prop} {v : Value} {s : Shared} (h : PIE X pins σ tg R' v s) (hR : ∀ J H', (∃ s', Inv X pins σ H' s') → R' J H' → R J H') : PIE X pins σ tg R v s := by
  obtain ⟨it, fp, tn, J, H', e, I, T, st, f, q⟩ := h
  exact ⟨it, fp, tn, J, H', e, I, T, st, f, hR J H' ⟨s, I⟩ q⟩
/-- what stands at the source's start -/
theorem src_now {d : D} {v : V} {ds : List D} {ws : Wt} (m : MuOk Z ρ H μ) (r : Rep Z ρ H d v) (hq : seqIt μ d = some (ds, ws)) : wOk ws μ = true := by
  cases d with
  | str t =>
    have h' : (if t.length ≤ LINE then some (t.map fun c => D.str [c], ([] : Wt)) else none) = some (ds, ws) := hq
    split at h'
    · cases h'; rfl
    · cases h'
  | ref i =>
    have h' : (match μ[i]? with | some (.lst xs) => some (xs, [(i, xs)]) | _ => none) = some (ds, ws) := hq
    split at h'
    · rename_i ys e2
      cases h'
      unfold wOk
      simp only [List.all_cons, List.all_nil, Bool.and_true, e2]
      exact sames_refl _
    · cases h'
  | tup k xs => cases hq; rfl
  | lst xs => cases hq; rfl
  | _ => cases hq
theorem m_iseq (hK : Z.K = X.K) (he : PE X a (tE Z W cls (ev Φ ea))) : PI X tg a (tI Z W cls (evi Φ (.seq ea))) := by
  refine ⟨fun pins s σ H R I h => ?_⟩
  obtain ⟨ρ, σ', μ, so, m, p⟩ := h
  unfold evi at p
  generalize hr : ev Φ ea σ' μ = r at p
  have he' : ∀ {Q : VK} {d μ'}, r = .ok d μ' → (∀ ρ1 H1 v, Ext ρ H ρ1 H1 → MuOk Z ρ1 H1 μ' → Rep Z ρ1 H1 d v → Q v H1) → tE Z W cls (ev Φ ea) σ H Q := fun {Q d μ'} e hQ =>
    ⟨ρ, σ', μ, so, m, by rw [hr, e]; exact fun ρ1 H1 e1 m1 v r => hQ ρ1 H1 v e1 m1 r⟩
  cases r with
  | exc c μ' => exact (pi_list he).run pins s σ H R I ⟨ρ, σ', μ, so, m, by rw [hr]; exact p⟩
  | no => exact p.elim
  | ok d μ' =>
    simp only [Mi.R.bnd] at p
    generalize hq : seqIt μ' d = o at p
    cases o with
    | none => exact p.elim
    | some q =>
      obtain ⟨ds, ws⟩ := q
      have fin : ∀ {ρ1 H1 v}, Ext ρ H ρ1 H1 → MuOk Z ρ1 H1 μ' → Rep Z ρ1 H1 d v → ∃ S : Src, v = S.val ∧ (∃ xs, S.at_ Z.K H1 xs) ∧ ((∃ s', Inv X pins σ H1 s') → R (seqJ Z.K S) H1) ∧
          ((∃ t, d = .str t ∧ S = .txt (mkS t)) ∨ (∃ k xs, d = .tup k xs ∧ ∃ a, S = .tup a) ∨ ((∃ xs, d = .lst xs) ∨ ∃ i, d = .ref i) ∧ ∃ a, S = .list a) := fun {ρ1 H1 v} e1 m1 r => by
        obtain ⟨S, hv, hS, ⟨xs, hx⟩, hlen, hk⟩ := src_of m1 r hq
        refine ⟨S, hv, ⟨xs, hx⟩, fun ⟨s', I'⟩ => p ρ1 H1 e1 m1 _ (wlk_seq hS) ?_, hk⟩
        rcases hlen with hlen | hlen
        · exact hlen
        · have hw0 : wOk ws μ' = true := src_now m1 r hq
          obtain ⟨ys, h1, h2⟩ := hS [] ρ1 H1 μ' (by simp) (.refl _ _) m1 hw0
          rw [h2.length]
          refine src_len I' (hK ▸ h1) fun z e => ?_
          rcases hk with ⟨t, e1, _⟩ | ⟨k, xs, _, a, e1⟩ | ⟨_, a, e1⟩
          · exact hlen t e1
          · rw [e1] at e; cases e
          · rw [e1] at e; cases e
      have tr : ∀ {wi : TI}, PI X tg a wi → wi σ H (fun J H' => (∃ s', Inv X pins σ H' s') → R J H') → wpAny (model X.prog X.w) X.A (eval a X.env) (fun v s1 => wpAny (model X.prog X.w) X.A (pyIter v) (PIE X pins σ tg R) X.xe s1) X.xe s := fun {wi} hp hw =>
        thn (hp.run pins s σ H _ I hw) fun v s1 q => thn q fun itv s2 q2 => pie_of q2 fun J H' hs r => r hs
      have lst : (∃ xs, d = .lst xs) ∨ (∃ i, d = .ref i) → wpAny (model X.prog X.w) X.A (eval a X.env) (fun v s1 => wpAny (model X.prog X.w) X.A (pyIter v) (PIE X pins σ tg R) X.xe s1) X.xe s := fun hd =>
        tr (pi_list he) (he' rfl fun ρ1 H1 v e1 m1 r => by
          obtain ⟨S, rfl, ⟨xs, hx⟩, hR, hk⟩ := fin e1 m1 r
          rcases hk with ⟨t, e1, _⟩ | ⟨k, xs, e1, _⟩ | ⟨_, a, rfl⟩
          · exfalso; rcases hd with ⟨_, e2⟩ | ⟨_, e2⟩ <;> (rw [e1] at e2; cases e2)
          · exfalso; rcases hd with ⟨_, e2⟩ | ⟨_, e2⟩ <;> (rw [e1] at e2; cases e2)
          · exact ⟨a, rfl, ⟨xs, hK ▸ hx⟩, hK ▸ hR⟩)
      cases d with
      | str t =>
        exact tr (pi_str he) (he' rfl fun ρ1 H1 v e1 m1 r => by
          obtain ⟨S, rfl, ⟨xs, hx⟩, hR, hk⟩ := fin e1 m1 r
          rcases hk with ⟨t, _, rfl⟩ | ⟨k, xs, e1, _⟩ | ⟨⟨_, e2⟩ | ⟨_, e2⟩, _⟩
          · exact ⟨_, rfl, hR⟩
          · cases e1
          · cases e2
          · cases e2)
      | tup k xs =>
        exact tr (pi_tup he) (he' rfl fun ρ1 H1 v e1 m1 r => by
          obtain ⟨S, rfl, ⟨xs, hx⟩, hR, hk⟩ := fin e1 m1 r
          rcases hk with ⟨t, e1, rfl⟩ | ⟨k, xs, _, a, rfl⟩ | ⟨⟨_, e2⟩ | ⟨_, e2⟩, _⟩
          · cases e1
          · exact ⟨a, rfl, ⟨_, hK ▸ hx⟩, hK ▸ hR⟩
          · cases e2
          · cases e2)
      | lst xs => exact lst (.inl ⟨_, rfl⟩)
      | ref i => exact lst (.inr ⟨_, rfl⟩)
      | _ => cases hq
/-- the length of what is walked over -/
theorem src_bound {pins : List (Addr × Obj)} {s : Shared} {d : D} {v : V} {ds : List D} {ws : Wt} (hK : Z.K = X.K) (I : Inv X pins σ H s) (m : MuOk Z ρ H μ) (r : Rep Z ρ H d v) (hq : seqIt μ d = some (ds, ws)) : ds.length ≤ sizeLine := by
  obtain ⟨S, hv, hS, ⟨xs, hx⟩, hlen, hk⟩ := src_of m r hq
  rcases hlen with hlen | hlen
  · exact hlen
  · obtain ⟨ys, h1, h2⟩ := hS [] ρ H μ (by simp) (.refl _ _) m (src_now m r hq)
    rw [h2.length]
    refine src_len I (hK ▸ h1) fun z e => ?_
    rcases hk with ⟨t, e1, _⟩ | ⟨k, xs, _, a, e1⟩ | ⟨_, a, e1⟩
    · exact hlen t e1
    · rw [e1] at e; cases e
    · rw [e1] at e; cases e
theorem m_ienm (S : Su C X Z0 Z Φ cls W) {p pos tpos : Pos} {elts : List Expr} {kk : Nat} (he : PE X a (tE Z W cls (ev Φ ea))) (hg : Gl X "enumerate") (hst : nst a = true) : PI X (.Tuple elts kk tpos) (.Call (.Name "enumerate" p) [a] [] pos) (tI Z W cls (evi Φ (.enm ea))) := by
  refine ⟨fun pins s σ H R I h => ?_⟩
  obtain ⟨ρ, σ', μ, so, m, p⟩ := h
  unfold evi at p
  refine thn ((pi_en hg (S.bl _ (by decide)) (pa_cons he pa_nil (star_of hst)) (star_of hst)).run pins s σ H (fun J H' => (∃ s', Inv X pins σ H' s') → R J H') I (tE_bnd so m p fun x ρ1 H1 μ1 v e1 so1 m1 r1 p1 => ?_)) fun v s1 q => thn q fun itv s2 q2 => pie_of q2 fun J H' hs r => r hs
  generalize hq : seqIt μ1 x = o at p1
  cases o with
  | none => exact p1.elim
  | some q =>
    obtain ⟨ds, ws⟩ := q
    obtain ⟨Sr, rfl, hS, ⟨xs, hx⟩, hlen, hk⟩ := src_of m1 r1 hq
    refine ⟨Sr, xs, rfl, S.hK ▸ hx, fun ⟨s', I'⟩ => ?_⟩
    have := p1 ρ1 H1 (.refl _ _) m1 _ (wlk_enum hS) (by rw [enumL_len]; exact src_bound S.hK I' m1 r1 hq)
    exact S.hK ▸ this
theorem m_izip (S : Su C X Z0 Z Φ cls W) {p pos tpos : Pos} {elts : List Expr} {kk : Nat} (he : PE X a (tE Z W cls (ev Φ ea))) (hb : PE X b (tE Z W cls (ev Φ eb))) (hg : Gl X "zip") (hst : nst a = true) (hst2 : nst b = true) :
    PI X (.Tuple elts kk tpos) (.Call (.Name "zip" p) [a, b] [] pos) (tI Z W cls (evi Φ (.zip ea eb))) := by
  refine ⟨fun pins s σ H R I h => ?_⟩
  obtain ⟨ρ, σ', μ, so, m, p⟩ := h
  unfold evi at p
  refine thn ((pi_zz hg (S.bl _ (by decide)) (pa_cons he (pa_cons hb pa_nil (star_of hst2)) (star_of hst)) (star_of hst) (nostar (by simp [hst2])).1).run pins s σ H (fun J H' => (∃ s', Inv X pins σ H' s') → R J H') I
    (tE_bnd so m p fun x ρ1 H1 μ1 v e1 so1 m1 r1 p1 => tE_bnd so1 m1 p1 fun y ρ2 H2 μ2 u e2 so2 m2 r2 p2 => ?_)) fun v s1 q => thn q fun itv s2 q2 => pie_of q2 fun J H' hs r => r hs
  unfold zipIt at p2
  generalize hq : seqIt μ2 x = o at p2
  generalize hq2 : seqIt μ2 y = o2 at p2
  cases o with
  | none => exact p2.elim
  | some q =>
    cases o2 with
    | none => exact p2.elim
    | some q2 =>
      obtain ⟨ds, ws⟩ := q
      obtain ⟨es, vs⟩ := q2
      have r1' := r1.ext e2
      obtain ⟨S1, rfl, hS1, ⟨xs, hx⟩, _, _⟩ := src_of m2 r1' hq
      obtain ⟨S2, rfl, hS2, ⟨ys, hy⟩, _, _⟩ := src_of m2 r2 hq2
      refine ⟨S1, S2, xs, ys, rfl, S.hK ▸ hx, S.hK ▸ hy, fun ⟨s', I'⟩ => ?_⟩
      have hb := src_bound S.hK I' m2 r1' hq
      have := p2 ρ2 H2 (.refl _ _) m2 _ (wlk_zip hS1 hS2) (by rw [zipL_len]; exact Nat.le_trans (Nat.min_le_left _ _) hb)
      exact S.hK ▸ this
end
end Mi
set_option Elab.async false
set_option linter.all false
set_option maxRecDepth 100000
set_option maxHeartbeats 4000000
/-! Mn: ranges, targets, comprehensions. -/
namespace Mi
open PySem PySem.Spec PyProof.Rows L2
section
variable {C : Cfg} {X : Cx} {Z0 Z : Zx} {Φ : Env} {cls : Nat → Value} {W : WX} {α β : Type}
variable {ρ : List Addr} {H : Hp} {μ : Mu} {σ' : Sl} {σ : L2.St} {Q : VK}
variable {a b c ast tg : Expr} {ea eb ec : E} {pos : Pos} {as : List Expr} {es : Es}
theorem rngL_ok {lo hi st : Int} {l : List D} (h : rngL lo hi st = some l) : (-1000000 < lo ∧ lo < 1000000 ∧ -1000000 < hi ∧ hi < 1000000) ∧
    ((st = 1 ∧ l = (List.range (hi - lo).toNat).map fun (k : Nat) => .int (lo + k)) ∨ (st = -1 ∧ l = (List.range (lo - hi).toNat).map fun (k : Nat) => .int (lo - k))) := by
  unfold rngL at h
  split at h
  · rename_i q
    simp only [Bool.and_eq_true, decide_eq_true_eq] at q
    refine ⟨by omega, ?_⟩
    split at h
    · rename_i q1
      cases h
      exact .inl ⟨by simpa using q1, rfl⟩
    · split at h
      · rename_i q1
        cases h
        exact .inr ⟨by simpa using q1, rfl⟩
      · cases h
  · cases h
theorem m_irng1 (S : Su C X Z0 Z Φ cls W) {p : Pos} (ha : PE X a (tE Z W cls (ev Φ ea))) (hg : Gl X "range") (hst : nst a = true) : PI X tg (.Call (.Name "range" p) [a] [] pos) (tI Z W cls (evi Φ (.rng (.cons ea .nil)))) := by
  refine ⟨fun pins s σ H R I h => (pi_range1 hg (S.bl _ (by decide)) (pa_cons ha pa_nil (star_of hst)) (star_of hst)).run pins s σ H R I ?_⟩
  obtain ⟨ρ, σ', μ, so, m, p⟩ := h
  simp only [evi, evs] at p
  have p' : Pst Z ρ H (fun p ρ1 H1 _ => ∀ J, Wlk Z ρ1 H1 J p.1 p.2 → p.1.length ≤ sizeLine → R J H1) (fun c _ H' _ => W (cls c) none σ H') ((ev Φ ea σ' μ).bnd fun x μ => opt ((rngM [x]).map fun l => (l, [])) μ) := by
    cases h : ev Φ ea σ' μ <;> (rw [h] at p; exact p)
  refine tE_bnd so m p' fun x ρ1 H1 μ1 v e1 so1 m1 r1 p1 => ?_
  generalize hq : rngM [x] = o at p1
  cases o with
  | none => exact p1.elim
  | some l =>
    unfold rngM at hq
    split at hq <;> try (cases hq; done)
    · rename_i j e
      cases e
      cases r1
      obtain ⟨⟨b1, b2, b3, b4⟩, hl | hl⟩ := rngL_ok hq
      · have hl2 := hl.2
        rw [Int.sub_zero] at hl2
        refine ⟨_, rfl, by omega, by omega, p1 ρ1 H1 (.refl _ _) m1 _ (hl2 ▸ wlk_range 0 _) ?_⟩
        show l.length ≤ _
        rw [hl2, List.length_map, List.length_range, sizeLine_eq]; omega
      · omega
    all_goals (rename_i e; cases e)
theorem m_irng2 (S : Su C X Z0 Z Φ cls W) {p : Pos} (ha : PE X a (tE Z W cls (ev Φ ea))) (hb : PE X b (tE Z W cls (ev Φ eb))) (hg : Gl X "range") (hst : nst a = true) (hst2 : nst b = true) :
    PI X tg (.Call (.Name "range" p) [a, b] [] pos) (tI Z W cls (evi Φ (.rng (.cons ea (.cons eb .nil))))) := by
  refine ⟨fun pins s σ H R I h => (pi_range2 hg (S.bl _ (by decide)) (pa_cons ha (pa_cons hb pa_nil (star_of hst2)) (star_of hst)) (by rw [star_of hst, star_of hst2]; rfl) (star_of hst2)).run pins s σ H R I ?_⟩
  obtain ⟨ρ, σ', μ, so, m, p⟩ := h
  simp only [evi, evs] at p
  have p' : Pst Z ρ H (fun p ρ1 H1 _ => ∀ J, Wlk Z ρ1 H1 J p.1 p.2 → p.1.length ≤ sizeLine → R J H1) (fun c _ H' _ => W (cls c) none σ H') ((ev Φ ea σ' μ).bnd fun x μ => (ev Φ eb σ' μ).bnd fun y μ => opt ((rngM [x, y]).map fun l => (l, [])) μ) := by
    cases h : ev Φ ea σ' μ with
    | ok x μ1 => cases h2 : ev Φ eb σ' μ1 <;> (rw [h] at p; simp only [Mi.R.bnd] at p ⊢; rw [h2] at p ⊢; exact p)
    | exc c μ1 => rw [h] at p; exact p
    | no => rw [h] at p; exact p
  refine tE_bnd so m p' fun x ρ1 H1 μ1 v e1 so1 m1 r1 p1 => tE_bnd so1 m1 p1 fun y ρ2 H2 μ2 u e2 so2 m2 r2 p2 => ?_
  generalize hq : rngM [x, y] = o at p2
  cases o with
  | none => exact p2.elim
  | some l =>
    unfold rngM at hq
    split at hq <;> try (cases hq; done)
    · rename_i e; cases e
    · rename_i i j e
      cases e
      cases r1
      cases r2
      obtain ⟨⟨b1, b2, b3, b4⟩, hl | hl⟩ := rngL_ok hq
      · refine ⟨_, _, rfl, ⟨by omega, by omega, by omega, by omega⟩, p2 ρ2 H2 (.refl _ _) m2 _ (hl.2 ▸ wlk_range _ _) ?_⟩
        show l.length ≤ _
        rw [hl.2, List.length_map, List.length_range, sizeLine_eq]; omega
      · omega
    · rename_i e; cases e
theorem m_irng3 (S : Su C X Z0 Z Φ cls W) {p : Pos} (ha : PE X a (tE Z W cls (ev Φ ea))) (hb : PE X b (tE Z W cls (ev Φ eb))) (hc : PE X c (tE Z W cls (ev Φ ec))) (hg : Gl X "range") (hst : nst a = true) (hst2 : nst b = true) (hst3 : nst c = true) :
    PI X tg (.Call (.Name "range" p) [a, b, c] [] pos) (tI Z W cls (evi Φ (.rng (.cons ea (.cons eb (.cons ec .nil)))))) := by
  refine ⟨fun pins s σ H R I h => (pi_range3 hg (S.bl _ (by decide)) (pa_cons ha (pa_cons hb (pa_cons hc pa_nil (star_of hst3)) (star_of hst2)) (star_of hst)) (star_of hst) (nostar (by simp [hst2, hst3])).1).run pins s σ H R I ?_⟩
  obtain ⟨ρ, σ', μ, so, m, p⟩ := h
  simp only [evi, evs] at p
  have p' : Pst Z ρ H (fun p ρ1 H1 _ => ∀ J, Wlk Z ρ1 H1 J p.1 p.2 → p.1.length ≤ sizeLine → R J H1) (fun c _ H' _ => W (cls c) none σ H') ((ev Φ ea σ' μ).bnd fun x μ => (ev Φ eb σ' μ).bnd fun y μ => (ev Φ ec σ' μ).bnd fun z μ => opt ((rngM [x, y, z]).map fun l => (l, [])) μ) := by
    cases h : ev Φ ea σ' μ with
    | ok x μ1 =>
      cases h2 : ev Φ eb σ' μ1 with
      | ok y μ2 => cases h3 : ev Φ ec σ' μ2 <;> (rw [h] at p; simp only [Mi.R.bnd] at p ⊢; rw [h2] at p ⊢; simp only [Mi.R.bnd] at p ⊢; rw [h3] at p ⊢; exact p)
      | exc c μ1 => rw [h] at p; simp only [Mi.R.bnd] at p ⊢; rw [h2] at p ⊢; exact p
      | no => rw [h] at p; simp only [Mi.R.bnd] at p ⊢; rw [h2] at p ⊢; exact p
    | exc c μ1 => rw [h] at p; exact p
    | no => rw [h] at p; exact p
  refine tE_bnd so m p' fun x ρ1 H1 μ1 v e1 so1 m1 r1 p1 => tE_bnd so1 m1 p1 fun y ρ2 H2 μ2 u e2 so2 m2 r2 p2 => tE_bnd so2 m2 p2 fun z ρ3 H3 μ3 w e3 so3 m3 r3 p3 => ?_
  generalize hq : rngM [x, y, z] = o at p3
  cases o with
  | none => exact p3.elim
  | some l =>
    unfold rngM at hq
    split at hq <;> try (cases hq; done)
    · rename_i e; cases e
    · rename_i e; cases e
    · rename_i i j k e
      cases e
      cases r1
      cases r2
      cases r3
      split at hq
      · rename_i hk
        have hk' : k = -1 := by simpa using hk
        obtain ⟨⟨b1, b2, b3, b4⟩, hl | hl⟩ := rngL_ok hq
        · omega
        · subst hk'
          refine ⟨_, _, _, _, rfl, RgC.neg (by omega) (by omega) (by omega) (by omega), p3 ρ3 H3 (.refl _ _) m3 _ (hl.2 ▸ wlk_down _ _) ?_⟩
          show l.length ≤ _
          rw [hl.2, List.length_map, List.length_range, sizeLine_eq]; omega
      · cases hq
/-! ### targets -/
def Agree (S : List Nat) (σ2 σ : L2.St) : Prop := σ2.length = σ.length ∧ ∀ j, j ∉ S → σ2[j]? = σ[j]?
theorem Agree.wipe {S : List Nat} {σ2 σ : L2.St} (h : Agree S σ2 σ) : wipe σ2 S = wipe σ S := by
  have key : ∀ (T : List Nat) (τ : L2.St) (j : Nat), (L2.wipe τ T)[j]? = if j ∈ T ∧ j < τ.length then some none else τ[j]? := by
    intro T
    induction T with
    | nil => intro τ j; simp [L2.wipe]
    | cons v vs ih =>
      intro τ j
      have hl : ∀ vs : List Nat, (L2.wipe τ vs).length = τ.length := by
        intro vs
        induction vs with
        | nil => rfl
        | cons v vs ih => simp [L2.wipe, ih]
      show ((L2.wipe τ vs).set v none)[j]? = _
      by_cases hv : v = j
      · subst hv
        by_cases hj : v < τ.length
        · rw [List.getElem?_set_self (by rw [hl]; exact hj)]
          simp [hj]
        · rw [List.getElem?_eq_none (by simp [hl]; omega)]
          simp [hj]
      · rw [List.getElem?_set_ne hv, ih]
        have : j ∈ v :: vs ↔ j ∈ vs := by simp [Ne.symm hv]
        simp only [this]
  refine List.ext_getElem? fun j => ?_
  rw [key, key, h.1]
  by_cases hj : j ∈ S
  · by_cases hl : j < σ.length
    · rw [if_pos ⟨hj, hl⟩, if_pos ⟨hj, hl⟩]
    · rw [if_neg (fun z => hl z.2), if_neg (fun z => hl z.2), List.getElem?_eq_none (by have := h.1; omega), List.getElem?_eq_none (by omega)]
  · rw [if_neg (fun z => hj z.1), if_neg (fun z => hj z.1), h.2 j hj]
theorem wipe_len (σ : L2.St) : ∀ vs : List Nat, (L2.wipe σ vs).length = σ.length
  | [] => rfl
  | v :: vs => by simp [L2.wipe, wipe_len σ vs]
theorem agree_wipe (σ : L2.St) (S : List Nat) : Agree S (L2.wipe σ S) σ := by
  refine ⟨wipe_len σ S, fun j hj => ?_⟩
  induction S with
  | nil => rfl
  | cons v vs ih =>
    show ((L2.wipe σ vs).set v none)[j]? = _
    simp only [List.mem_cons, not_or] at hj
    rw [List.getElem?_set_ne (Ne.symm hj.1), ih hj.2]
theorem Agree.trans {S : List Nat} {a b c : L2.St} (h : Agree S a b) (g : Agree S b c) : Agree S a c := ⟨h.1.trans g.1, fun j hj => (h.2 j hj).trans (g.2 j hj)⟩
/-- a target's reading -/
def gM (Z : Zx) (t : Tg) : TG := fun v σ H Q => ∃ ρ σ' μ d σ'', SlOk Z ρ H σ' σ ∧ MuOk Z ρ H μ ∧ Rep Z ρ H d v ∧ bindT μ t d σ' = some σ'' ∧ ∀ σ2, SlOk Z ρ H σ'' σ2 → Agree (tgS t) σ2 σ → Q σ2 H
def gMs (Z : Zx) (l : List Tg) : TGs := fun vs σ H Q => ∃ ρ σ' μ ds σ'', SlOk Z ρ H σ' σ ∧ MuOk Z ρ H μ ∧ Reps Z ρ H ds vs ∧ bindTs μ l ds σ' = some σ'' ∧ ∀ σ2, SlOk Z ρ H σ'' σ2 → Agree (tgsS l) σ2 σ → Q σ2 H
theorem g_one {i : Nat} {x : Str} (hN : X.N.Nodup) (hi : X.N[i]? = some x) (hx : Loc X.env.scope x) (hf : X.fn x = true ∨ X.env.scope.names.lookup x = some .local) : PG X (.Name x pos) (gM Z (.one i)) := by
  refine ⟨fun pins s σ H v u Q I r h => (pg_name hN hi hx hf).run pins s σ H v u Q I r ?_⟩
  obtain ⟨ρ, σ', μ, d, σ'', so, m, rd, hb, q⟩ := h
  unfold bindT at hb
  split at hb
  · cases hb
    refine q _ (so.set rd) ⟨by simp, fun j hj => ?_⟩
    have : i ≠ j := fun e => hj (by simp [tgS, e])
    rw [List.getElem?_set_ne this]
  · cases hb
theorem g_nil : PGs X [] (gMs Z []) := by
  refine ⟨fun pins s σ H vs us Q I r h => pgs_nil.run pins s σ H vs us Q I r ?_⟩
  obtain ⟨ρ, σ', μ, ds, σ'', so, m, rd, hb, q⟩ := h
  cases ds with
  | nil =>
    unfold bindTs at hb
    cases hb
    cases rd
    exact ⟨rfl, q _ so ⟨rfl, fun _ _ => rfl⟩⟩
  | cons d ds => unfold bindTs at hb; cases hb
theorem g_cons {e : Expr} {es : List Expr} {t : Tg} {l : List Tg} (h1 : PG X e (gM Z t)) (h2 : PGs X es (gMs Z l)) (hst : nst e = true) : PGs X (e :: es) (gMs Z (t :: l)) := by
  have hs : (assignEach (e :: es) X.env).map (·.2) = assign e X.env :: (assignEach es X.env).map (·.2) := by
    cases e <;> first | rfl | cases hst
  refine ⟨fun pins s σ H vs us Q I r h => (pgs_cons h1 h2 hs).run pins s σ H vs us Q I r ?_⟩
  obtain ⟨ρ, σ', μ, ds, σ'', so, m, rd, hb, q⟩ := h
  cases rd with
  | nil => unfold bindTs at hb; cases hb
  | cons r1 r2 =>
    rename_i d ds v vs
    unfold bindTs at hb
    generalize hb1 : bindT μ t d σ' = o at hb
    cases o with
    | none => cases hb
    | some σ1 =>
      simp only at hb
      refine ⟨v, vs, rfl, ρ, σ', μ, d, σ1, so, m, r1, hb1, fun σ2 so2 ag => ⟨ρ, σ1, μ, ds, σ'', so2, m, r2, hb, fun σ3 so3 ag3 => q σ3 so3 ⟨ag3.1.trans ag.1, fun j hj => ?_⟩⟩⟩
      simp only [tgsS, List.mem_append, not_or] at hj
      rw [ag3.2 j hj.2, ag.2 j hj.1]
theorem bindTs_len {μ : Mu} : ∀ {l : List Tg} {ds : List D} {σ σ2 : Sl}, bindTs μ l ds σ = some σ2 → l.length = ds.length
  | [], [], _, _, _ => rfl
  | [], _ :: _, _, _, h => by unfold bindTs at h; cases h
  | _ :: _, [], _, _, h => by unfold bindTs at h; cases h
  | t :: l, d :: ds, σ, σ2, h => by
    unfold bindTs at h
    generalize hb1 : bindT μ t d σ = o at h
    cases o with
    | none => cases h
    | some σ1 =>
      have := bindTs_len (l := l) (ds := ds) h
      simp [this]
theorem assign_len {env : PySem.Env} : ∀ {es : List Expr}, es.all nst = true → (assignEach es env).length = es.length ∧ (assignEach es env).findIdx? (·.1) = none
  | [], _ => ⟨rfl, rfl⟩
  | e :: es, h => by
    simp only [List.all_cons, Bool.and_eq_true] at h
    have ih := assign_len (env := env) h.2
    have hs : assignEach (e :: es) env = (false, assign e env) :: assignEach es env := by
      cases e <;> first | rfl | cases h.1
    rw [hs]
    refine ⟨by simp [ih.1], ?_⟩
    rw [List.findIdx?_cons]
    simp [ih.2]
theorem g_tup (hK : Z.K = X.K) (hc : X.calm = true) {es : List Expr} {k : Nat} {l : List Tg} (h : PGs X es (gMs Z l)) (hst : es.all nst = true) (hl : l.length = es.length) : PG X (.Tuple es k pos) (gM Z (.tup l)) := by
  refine ⟨fun pins s σ H v u Q I r hh => ?_⟩
  obtain ⟨ρ, σ', μ, d, σ'', so, m, rd, hb, q⟩ := hh
  obtain ⟨hn, hf⟩ := assign_len (env := X.env) hst
  unfold bindT at hb
  generalize hsq : seqOf μ d = o at hb
  cases o with
  | none => cases hb
  | some ds =>
    obtain ⟨a, xs, rfl, sq, rs⟩ := seqOf_rep m rd hsq
    have hlen : xs.length = es.length := by rw [← rs.length, ← bindTs_len hb, hl]
    have key : gMs Z l xs σ H Q := ⟨ρ, σ', μ, ds, σ'', so, m, rs, hb, fun σ2 s2 ag => q σ2 s2 ag⟩
    rcases sq with sq | sq
    · exact (pg_lst hc h hn hf).run pins s σ H _ u Q I r ⟨a, xs, rfl, hK ▸ sq, hlen, key⟩
    · exact (pg_tup hc h hn hf).run pins s σ H _ u Q I r ⟨a, xs, rfl, hK ▸ sq, hlen, key⟩
/-! ### comprehensions -/
theorem m_qn : PTs X [] (tT Z W cls (evq Φ .none)) := by
  refine ⟨fun pins s σ H Q I h => pts_nil.run pins s σ H Q I ?_⟩
  obtain ⟨ρ, σ', μ, so, m, p⟩ := h
  unfold evq at p
  exact p.ok m
theorem m_qs (h : PT X c (tT Z W cls (evT Φ ec))) : PTs X [c] (tT Z W cls (evq Φ (.some ec))) := by
  refine ⟨fun pins s σ H Q I h' => (pts_one h).run pins s σ H Q I ?_⟩
  obtain ⟨ρ, σ', μ, so, m, p⟩ := h'
  unfold evq at p
  exact ⟨ρ, σ', μ, so, m, p⟩
/-- the wish of nothing: in a comprehension nothing is raised -/
def W0 : WX := fun _ _ _ _ => False
theorem wipe_ok {σ' : Sl} {σ : L2.St} (so : SlOk Z ρ H σ' σ) : ∀ vs : List Nat, SlOk Z ρ H (wipeM σ' vs) (L2.wipe σ vs)
  | [] => so
  | v :: vs => by
    have ih := wipe_ok so vs
    refine ⟨by simp [wipeM, L2.wipe, ih.len], fun i d h => ?_⟩
    have h' : ((wipeM σ' vs).set v none)[i]? = some (some d) := h
    by_cases hv : v = i
    · subst hv
      by_cases hl : v < (wipeM σ' vs).length
      · rw [List.getElem?_set_self hl] at h'; cases h'
      · rw [List.getElem?_eq_none (by simpa using hl)] at h'; cases h'
    · rw [List.getElem?_set_ne hv] at h'
      obtain ⟨w, h1, h2⟩ := ih.at_ i d h'
      exact ⟨w, by show ((L2.wipe σ vs).set v none)[i]? = _; rw [List.getElem?_set_ne hv]; exact h1, h2⟩
/-- one reading for all lists that may be made -/
def tX {α : Type} (t : Addr → L2.St → Hp → α → Prop) : L2.St → Hp → α → Prop := fun σ H Q => ∃ D, t D σ H Q
theorem Pst.ne {α : Type} {Qf : α → List Addr → Hp → Mu → Prop} {Ef : Nat → List Addr → Hp → Mu → Prop} {r : Mi.R α} (p : Pst Z ρ H Qf Ef r) : r ≠ .no := fun e => by rw [e] at p; exact p
theorem mapR_head {ws : Wt} {f : Mi.D → Mu → Mi.R (Option Mi.D)} {d : Mi.D} {r : List Mi.D} {k : List Mi.D → Mu → Mi.R β} (h : ((mapR ws f (d :: r) μ).calm.bnd k) ≠ .no) : wOk ws μ = true ∧ ∃ o μ', f d μ = .ok o μ' := by
  unfold mapR at h
  split at h
  · rename_i hw
    refine ⟨hw, ?_⟩
    cases hf : f d μ with
    | ok o μ' => exact ⟨o, μ', rfl⟩
    | exc c μ' => rw [hf] at h; exact absurd rfl h
    | no => rw [hf] at h; exact absurd rfl h
  · exact absurd rfl h
theorem mapR_end {ws : Wt} {f : Mi.D → Mu → Mi.R (Option Mi.D)} {k : List Mi.D → Mu → Mi.R β} (h : ((mapR ws f [] μ).calm.bnd k) ≠ .no) : wOk ws μ = true ∧ (mapR ws f [] μ).calm.bnd k = k [] μ := by
  unfold mapR at h ⊢
  split at h
  · rename_i hw
    rw [if_pos hw]
    exact ⟨hw, rfl⟩
  · exact absurd rfl h
theorem mapR_none {ws : Wt} {f : Mi.D → Mu → Mi.R (Option Mi.D)} {d : Mi.D} {r : List Mi.D} {k : List Mi.D → Mu → Mi.R β} {μ' : Mu} (hw : wOk ws μ = true) (h : f d μ = .ok none μ') : (mapR ws f (d :: r) μ).calm.bnd k = (mapR ws f r μ').calm.bnd k := by
  rw [mapR, if_pos hw, h]
  simp only [Mi.R.bnd]
  cases mapR ws f r μ' <;> rfl
theorem mapR_some {ws : Wt} {f : Mi.D → Mu → Mi.R (Option Mi.D)} {d y : Mi.D} {r : List Mi.D} {k : List Mi.D → Mu → Mi.R β} {μ' : Mu} (hw : wOk ws μ = true) (h : f d μ = .ok (some y) μ') : (mapR ws f (d :: r) μ).calm.bnd k = (mapR ws f r μ').calm.bnd fun ys μ => k (y :: ys) μ := by
  rw [mapR, if_pos hw, h]
  simp only [Mi.R.bnd]
  cases mapR ws f r μ' <;> rfl
theorem SlOk.later {D : Addr} {ρ0 : List Addr} {H0 : Hp} (s : SlOk Z ρ0 H0 σ' σ) (x : Ext ρ0 H0 ρ H) (h : H0 D = none) : SlOk (Z.with D) ρ H σ' σ :=
  ⟨s.len, fun i d e => let ⟨v, h1, r⟩ := s.at_ i d e; ⟨v, h1, Rep.later (L := [D]) x (fun a ha => by rw [List.mem_singleton.mp ha]; exact h) r⟩⟩
theorem Ext.upd_new {ρ0 ρ : List Addr} {H0 H : Hp} {D : Addr} {o : HO} (x : Ext ρ0 H0 ρ H) (h : H0 D = none) : Ext ρ0 H0 ρ (upd H D o) where
  pre := x.pre
  new := x.new
  keep := fun a u e n t => by rw [upd_ne (ne_of_none e h)]; exact x.keep a u e n t
  live := fun a u e => by rw [upd_ne (ne_of_none e h)]; exact x.live a u e
theorem Out.adopt {a D : Addr} (h : Out (Z.with D) ρ a) : Out Z (ρ ++ [D]) a :=
  ⟨fun z => (List.mem_append.mp z).elim h.1 fun q => h.2 (by rw [List.mem_singleton.mp q]; exact List.mem_cons_self), fun z => h.2 (List.mem_cons_of_mem _ z)⟩
mutual
theorem Rep.adopt {D : Addr} : ∀ {d : Mi.D} {v : V}, Rep (Z.with D) ρ H d v → Rep Z (ρ ++ [D]) H d v
  | _, _, .non => .non
  | _, _, .bl b => .bl b
  | _, _, .int i => .int i
  | _, _, .str s => .str s
  | _, _, .tup h n r => .tup (h.imp (fun q => ⟨q.1, q.2.adopt⟩) id) (fun k => (n k).imp (fun ⟨o, u, e, q, m⟩ => ⟨o, u, e, q, m.adopt⟩) id) (Reps.adopt r)
  | _, _, .lst h n r => .lst h n.adopt (Reps.adopt r)
  | _, _, .scr h => .scr (h.imp (fun q => ⟨q.1, q.2.adopt⟩) id)
  | _, _, .dic h n r => .dic h n.adopt (Reps.adopt r)
  | _, _, .ref h => .ref (by rw [List.getElem?_append_left (List.getElem?_eq_some_iff.mp h).1]; exact h)
  | _, _, .clo h1 h2 n1 n2 t1 t2 => .clo h1 h2 n1.adopt n2.adopt t1 t2
theorem Reps.adopt {D : Addr} : ∀ {ds : List Mi.D} {vs : List V}, Reps (Z.with D) ρ H ds vs → Reps Z (ρ ++ [D]) H ds vs
  | _, _, .nil => .nil
  | _, _, .cons a r => .cons (Rep.adopt a) (Reps.adopt r)
end
theorem CellOk.adopt {D a : Addr} {d : Mi.D} (h : CellOk (Z.with D) ρ H a d) : CellOk Z (ρ ++ [D]) H a d := by
  cases d with
  | lst ds => obtain ⟨xs, h1, h2⟩ := h; exact ⟨xs, h1, h2.adopt⟩
  | dic ks vs => obtain ⟨kvs, h1, h2, h3⟩ := h; exact ⟨kvs, h1, h2, h3.adopt⟩
  | _ => trivial
/-- what was made becomes a cell -/
theorem MuOk.adopt {D : Addr} {d : Mi.D} (m : MuOk (Z.with D) ρ H μ) (hD : ∃ o, H D = some o ∧ ∀ ps, o ≠ .tbl ps) (r : CellOk (Z.with D) ρ H D d) (hx : D ∉ Z.ex) : MuOk Z (ρ ++ [D]) H (μ ++ [d]) := by
  have hn : D ∉ ρ := m.exn D List.mem_cons_self
  obtain ⟨o, hD, hot⟩ := hD
  refine ⟨?_, by simp [m.len], fun a ha => ?_, fun i a e h1 h2 => ?_, m.tb, fun P hP hm => ?_, fun a ha => m.exl a (List.mem_cons_of_mem _ ha), fun a ha hm => ?_, fun p hp => ?_, fun P hP q hq ps h pos cv hc => let ⟨c, e1, e2, n⟩ := m.tq P hP q hq ps h pos cv hc; ⟨c, e1, e2, n.adopt⟩⟩
  · exact List.nodup_append.mpr ⟨m.nd, by simp, fun a ha b hb e => hn (by simp at hb; rw [← hb, ← e]; exact ha)⟩
  · rcases List.mem_append.mp ha with z | z
    · exact m.live a z
    · simp at z; exact ⟨o, by rw [z]; exact hD⟩
  · by_cases hi : i < ρ.length
    · rw [List.getElem?_append_left hi] at h1
      rw [List.getElem?_append_left (by rw [← m.len]; exact hi)] at h2
      exact (m.cell i a e h1 h2).adopt
    · have hi' : i = ρ.length := by
        have := (List.getElem?_eq_some_iff.mp h1).1
        simp at this
        omega
      subst hi'
      rw [List.getElem?_append_right (Nat.le_refl _)] at h1
      rw [m.len, List.getElem?_append_right (Nat.le_refl _)] at h2
      simp at h1 h2
      rw [← h1, ← h2]
      exact r.adopt
  · rcases List.mem_append.mp hm with z | z
    · exact m.tbn P hP z
    · simp at z
      obtain ⟨ps, e, _⟩ := m.tb P hP
      rw [z, hD] at e
      exact hot ps (Option.some.inj e)
  · rcases List.mem_append.mp hm with z | z
    · exact m.exn a (List.mem_cons_of_mem _ ha) z
    · simp at z
      exact hx (z ▸ ha)
  · obtain ⟨e, n, t⟩ := m.gl p hp
    exact ⟨e, n.adopt, t⟩
/-- the list or dict that was made is there: a tree or a cell -/
theorem Pst.made {ρ0 : List Addr} {H0 : Hp} {D : Addr} {Ef : Nat → List Addr → Hp → Mu → Prop} {d : Mi.D} {cl : Bool} {o : HO} (p : Pst Z ρ0 H0 (QD Z Q) Ef (fresh cl d μ)) (x : Ext ρ0 H0 ρ H) (h0 : H0 D = none) (m0 : ∀ a ∈ Z.ex, ∃ o, H0 a = some o)
    (m : MuOk (Z.with D) ρ H μ) (hD : H D = some o) (hot : ∀ ps, o ≠ .tbl ps) (r : CellOk (Z.with D) ρ H D d) (hr : Out Z ρ D → Rep Z ρ H d (.ref D)) : Q (.ref D) H := by
  have hx : D ∉ Z.ex := fun z => by
    obtain ⟨o, e⟩ := m0 D z
    rw [h0] at e
    cases e
  have hn : D ∉ ρ := m.exn D List.mem_cons_self
  cases cl with
  | false => exact p ρ H x m.less _ (hr ⟨hn, hx⟩)
  | true =>
    refine p (ρ ++ [D]) H ⟨x.pre.trans (List.prefix_append _ _), fun a ha n => ?_, fun a u e n t => x.keep a u e n t, x.live⟩ (m.adopt ⟨o, hD, hot⟩ r hx) _ (.ref ?_)
    · rcases List.mem_append.mp ha with z | z
      · exact x.new a z n
      · simp at z; rw [z]; exact h0
    · rw [← m.len, List.getElem?_append_right (Nat.le_refl _)]
      simp
/-- the readings of target, test and element in a comprehension -/
abbrev lcG (Z : Zx) (t : Tg) : TG := fun v σ H Q => ∃ D, gM (Z.with D) t v σ H Q
abbrev lcT (Z : Zx) (cls : Nat → Value) (Φ : Env) (q : Eo) : TT := fun σ H Q => ∃ D, tT (Z.with D) W0 cls (evq Φ q) σ H Q
abbrev lcE (Z : Zx) (cls : Nat → Value) (Φ : Env) (e : E) : TE := fun σ H Q => ∃ D, tE (Z.with D) W0 cls (ev Φ e) σ H Q
theorem tLc_of {own : List (Str × Nat)} {it : Mi.It} {t : Tg} {q : Eo} {e : E} {cl : Bool} (hown : own.map (·.2) = tgS t) (h : tE Z W cls (ev Φ (.comp cl t it q e)) σ H Q) : tLc (tI Z W cls (evi Φ it)) (lcG Z t) (lcT Z cls Φ q) (lcE Z cls Φ e) (own.map (·.2)) σ H Q := by
  obtain ⟨ρ, σ', μ, so, m, p⟩ := h
  unfold ev at p
  refine ⟨ρ, σ', μ, so, m, p.bnd.mono (fun pr ρ1 H1 μ1 e1 m1 q1 J hJ hlen D hD => ?_) (fun _ _ _ _ _ _ h => h)⟩
  obtain ⟨ds, ws⟩ := pr
  simp only at q1 hJ hlen ⊢
  have so1 := so.ext e1
  have mD : ∀ a ∈ Z.ex, ∃ o, H1 a = some o := m1.exl
  -- the state at turn i
  generalize hf : turnM t σ' (evq Φ q) (ev Φ e) = f at q1
  let IV : Nat → Hp → Prop := fun i H2 => ∃ ρ2 μ2 done vs, Ext ρ1 H1 ρ2 H2 ∧ MuOk (Z.with D) ρ2 H2 μ2 ∧ H2 D = some (.lst vs) ∧ Reps (Z.with D) ρ2 H2 done vs ∧ vs.length ≤ i ∧ i ≤ ds.length ∧
    Pst Z ρ1 H1 (QD Z Q) (fun c _ H' _ => W (cls c) none σ H') ((mapR ws f (ds.drop i) μ2).calm.bnd fun ys μ => fresh cl (.lst (done ++ ys)) μ)
  have iv0 : IV 0 (upd H1 D (.lst [])) := ⟨ρ1, μ1, [], [], (Ext.refl _ _).upd_new hD, m1.start hD, upd_same, .nil, Nat.le_refl _, Nat.zero_le _, q1⟩
  refine ⟨fun i k H2 => k = ds.length - i ∧ IV i H2, ⟨_, rfl, iv0⟩, ?_⟩
  rintro i k H2 ⟨rfl, ρ2, μ2, done, vs, x2, m2, hv, rd, hvl, hil, p2⟩
  have hL : ∀ a ∈ [D], H1 a = none := fun a ha => by rw [List.mem_singleton.mp ha]; exact hD
  by_cases hi : i < ds.length
  · right
    have hd : ds[i]? = some ds[i] := List.getElem?_eq_getElem hi
    have hdrop : ds.drop i = ds[i] :: ds.drop (i + 1) := List.drop_eq_getElem_cons hi
    generalize ds[i] = d at hd hdrop
    rw [hdrop] at p2
    obtain ⟨hw, o, μ3, hfo⟩ := mapR_head p2.ne
    obtain ⟨hgo, -⟩ := hJ [D] i ρ2 H2 μ2 hL x2 m2 hw
    obtain ⟨g1, g2⟩ := hgo d hd
    refine ⟨g1, fun H3 => IV (i + 1) H3, fun H3 h3 => ⟨_, by omega, rfl, h3⟩, fun x H3 hy => ?_⟩
    obtain ⟨ρ3, x3, m3, r3⟩ := g2 x H3 hy
    have x13 := x2.trans x3
    have hfo' := hfo
    rw [← hf] at hfo'
    unfold turnM at hfo'
    generalize hbt : bindT μ2 t d (wipeM σ' (tgS t)) = bo at hfo'
    cases bo with
    | none => cases hfo'
    | some σ4 =>
      simp only at hfo'
      refine ⟨D, ρ3, _, μ2, d, σ4, hown ▸ wipe_ok (so1.later x13 hD) _, m3, r3, hbt, fun σ2 so2 ag => ⟨?_, D, ρ3, σ4, μ2, so2, m3, ?_⟩⟩
      · rw [hown]
        exact Agree.wipe (Agree.trans (hown ▸ ag) (hown ▸ agree_wipe σ _))
      · have at_ : ∀ {ρ4 H4}, Ext ρ3 H3 ρ4 H4 → H4 D = some (.lst vs) := fun x4 => (x3.trans x4).keep D _ hv (m2.exn D List.mem_cons_self) (fun ps z => by cases z)
        cases hq0 : evq Φ q σ4 μ2 with
        | exc c μ' => rw [hq0] at hfo'; cases hfo'
        | no => rw [hq0] at hfo'; cases hfo'
        | ok b μ4 =>
          rw [hq0] at hfo'
          simp only [Mi.R.bnd] at hfo'
          intro ρ4 H4 x4 m4
          cases b with
          | false =>
            cases hfo'
            refine ⟨ρ4, _, done, vs, x13.trans x4, m4, at_ x4, rd.ext (x3.trans x4), by omega, hi, ?_⟩
            rw [mapR_none hw hfo] at p2
            exact p2
          | true =>
            simp only [if_true] at hfo' ⊢
            refine ⟨D, ρ4, σ4, μ4, so2.ext x4, m4, ?_⟩
            cases he0 : ev Φ e σ4 μ4 with
            | exc c μ' => rw [he0] at hfo'; cases hfo'
            | no => rw [he0] at hfo'; cases hfo'
            | ok y μ5 =>
              rw [he0] at hfo'
              cases hfo'
              intro ρ5 H5 x5 m5 w r5
              have hv5 := at_ (x4.trans x5)
              have hn5 : ∀ ps, (HO.lst vs) ≠ .tbl ps := fun ps z => by cases z
              refine ⟨vs, hv5, Nat.lt_of_le_of_lt hvl (Nat.lt_of_lt_of_le hi hlen), ρ5, _, done ++ [y], vs ++ [w], ((x13.trans x4).trans x5).upd_new hD, m5.made hv5 hn5, upd_same,
                ((rd.ext ((x3.trans x4).trans x5)).append (.cons r5 .nil)).made, by simp; omega, hi, ?_⟩
              rw [mapR_some hw hfo] at p2
              simpa using p2
  · left
    have hi' : i = ds.length := by omega
    subst hi'
    rw [List.drop_length] at p2
    obtain ⟨hw, he0⟩ := mapR_end p2.ne
    rw [he0, List.append_nil] at p2
    obtain ⟨-, hstop⟩ := hJ [D] ds.length ρ2 H2 μ2 hL x2 m2 hw
    exact ⟨hstop rfl, p2.made x2 hD mD m2 hv (fun ps z => by cases z) ⟨vs, hv, rd⟩ fun o => .lst hv o rd.less⟩
/-- what a comprehension asks of the element, for all lists that may be made -/
theorem m_comp (S : Su C X Z0 Z Φ cls W) {elt tg iter : Expr} {ifs : List Expr} {scope : Scope} {own : List (Str × Nat)} {it : Mi.It} {t : Tg} {q : Eo} {e : E} {cl : Bool} (hi : PI X tg iter (tI Z W cls (evi Φ it))) (ok : BlkOk X.N X.env.scope scope own) (hown : own.map (·.2) = tgS t)
    (hg : ∀ (D : Addr) (s : Shared) (H : Hp) (C : Addr) (cl : List (Str × Addr)) (fp : List Addr), PG (X.blk s H scope (compEnvC scope cl C X.env) fp) tg (gM (Z.with D) t))
    (ht : ∀ (D : Addr) (s : Shared) (H : Hp) (C : Addr) (cl : List (Str × Addr)) (fp : List Addr), PTs (X.blk s H scope (compEnvC scope cl C X.env) fp) ifs (tT (Z.with D) W0 cls (evq Φ q)))
    (he : ∀ (D : Addr) (s : Shared) (H : Hp) (C : Addr) (cl : List (Str × Addr)) (fp : List Addr), PE (X.blk s H scope (compEnvC scope cl C X.env) fp) elt (tE (Z.with D) W0 cls (ev Φ e)))
    (hs : nset iter = true) : PE X (.ListComp elt [⟨tg, iter, ifs, 0⟩] scope pos) (tE Z W cls (ev Φ (.comp cl t it q e))) := by
  exact ⟨fun pins s σ H Q I h => (pe_lc (own := own) S.calm S.nd hi ok
    (g := lcG Z t) (tt := lcT Z cls Φ q) (te := lcE Z cls Φ e)
    (fun s H C cl fp => ⟨fun pins s' σ H' v u Q I r ⟨D, h⟩ => (hg D s H C cl fp).run pins s' σ H' v u Q I r h⟩)
    (fun s H C cl fp => ⟨fun pins s' σ H' Q I ⟨D, h⟩ => (ht D s H C cl fp).run pins s' σ H' Q I h⟩)
    (fun s H C cl fp => ⟨fun pins s' σ H' Q I ⟨D, h⟩ => (he D s H C cl fp).run pins s' σ H' Q I h⟩) (folded_of hs)).run pins s σ H Q I (tLc_of hown h)⟩
end
end Mi
set_option Elab.async false
set_option linter.all false
set_option maxRecDepth 100000
set_option maxHeartbeats 4000000
/-! Mh: chains, dict displays, list(..). -/
namespace Mi
open PySem PySem.Spec PyProof.Rows L2
section
variable {C : Cfg} {X : Cx} {Z0 Z : Zx} {Φ : Env} {cls : Nat → Value} {W : WX} {α β : Type}
variable {ρ : List Addr} {H : Hp} {μ : Mu} {σ' : Sl} {σ : L2.St} {Q : VK}
variable {a b c ast tg : Expr} {ea eb ec : E} {pos : Pos} {as : List Expr} {es : Es}
/-! ### chains -/
inductive PCh (X : Cx) (Z : Zx) (W : WX) (cls : Nat → Value) (Φ : Env) : Ch → List CmpOp → List Expr → Prop
  | last {o : CO} {b : Expr} {eb : E} : PE X b (tE Z W cls (ev Φ eb)) → nset b = true → PCh X Z W cls Φ (.last o eb) [coPy o] [b]
  | more {o : CO} {b : Expr} {eb : E} {l : Ch} {op : CmpOp} {ops : List CmpOp} {y : Expr} {ys : List Expr} : PE X b (tE Z W cls (ev Φ eb)) → PCh X Z W cls Φ l (op :: ops) (y :: ys) → PCh X Z W cls Φ (.more o eb l) (coPy o :: op :: ops) (b :: y :: ys)
theorem PCh.marks {l : Ch} {ops : List CmpOp} {ys : List Expr} (h : PCh X Z W cls Φ l ops ys) : lastMarks ops ys = false := by
  induction h with
  | last _ hs => exact behind_of hs
  | more _ _ ih => exact ih
theorem chainV (S : Su C X Z0 Z Φ cls W) {l : Ch} {ops : List CmpOp} {ys : List Expr} (h : PCh X Z W cls Φ l ops ys) : ∀ {pins : List (Addr × Obj)} {s : Shared} {σ : L2.St} {σ' : Sl} {H : Hp} {μ : Mu} {ρ : List Addr} {x : D} {v : V} {u : Value} {Q : VK},
    Inv X pins σ H s → SlOk Z ρ H σ' σ → MuOk Z ρ H μ → Rep Z ρ H x v → RelV v u → Pst Z ρ H (QD Z Q) (fun c _ H' _ => W (cls c) none σ H') ((evC Φ l x σ' μ).bnd fun b μ => .ok (.bl b) μ) →
    wpAny (model X.prog X.w) X.A (compareChain pos u ops (evalEach ys X.env)) (EP X pins σ Q) X.xe s := by
  induction h with
  | last hb hs =>
    rename_i o b eb
    intro pins s σ σ' H μ ρ x v u Q I so m rx ru p
    refine chain_last (thn (hb.run pins s σ H (fun w H2 => rC Z o v w H2 Q) I ?_) fun w s2 ⟨y, H2, I2, r2, q2⟩ => op_cM S.hK (by have := S.hu; omega) o pins s2 σ H2 _ _ _ _ Q I2 ru r2 q2)
    unfold evC at p
    have p' : Pst Z ρ H (QD Z Q) (fun c _ H' _ => W (cls c) none σ H') ((ev Φ eb σ' μ).bnd fun y μ => opt ((cmpM o μ x y).map .bl) μ) := by
      cases h : ev Φ eb σ' μ with
      | ok y μ1 =>
        rw [h] at p
        simp only [Mi.R.bnd] at p ⊢
        cases h2 : cmpM o μ1 x y <;> (rw [h2] at p; exact p)
      | exc c μ1 => rw [h] at p; exact p
      | no => rw [h] at p; exact p
    exact tE_bnd so m p' fun y ρ2 H2 μ2 w e2 so2 m2 r2 p2 => ⟨ρ2, μ2, x, y, m2, rx.ext e2, r2, p2.opt_⟩
  | more hb hl ih =>
    rename_i o b eb l op ops y ys
    intro pins s σ σ' H μ ρ x v u Q I so m rx ru p
    unfold evC at p
    have p' : Pst Z ρ H (QD Z Q) (fun c _ H' _ => W (cls c) none σ H') ((ev Φ eb σ' μ).bnd fun y μ => (opt (cmpM o μ x y) μ).bnd fun t μ => if t = true then (evC Φ l y σ' μ).bnd fun b μ => .ok (.bl b) μ else .ok (.bl false) μ) := by
      cases h : ev Φ eb σ' μ with
      | ok y μ1 =>
        rw [h] at p
        simp only [Mi.R.bnd] at p ⊢
        cases h2 : cmpM o μ1 x y with
        | none => rw [h2] at p; exact p
        | some t => cases t <;> (rw [h2] at p; exact p)
      | exc c μ1 => rw [h] at p; exact p
      | no => rw [h] at p; exact p
    refine chain_link (thn (hb.run pins s σ H (fun w H2 => ∃ ρ2 μ2 y, SlOk Z ρ2 H2 σ' σ ∧ MuOk Z ρ2 H2 μ2 ∧ Rep Z ρ2 H2 x v ∧ Rep Z ρ2 H2 y w ∧ Pst Z ρ2 H2 (QD Z Q) (fun c _ H' _ => W (cls c) none σ H') ((opt (cmpM o μ2 x y) μ2).bnd fun t μ => if t = true then (evC Φ l y σ' μ).bnd fun b μ => .ok (.bl b) μ else .ok (.bl false) μ)) I
      (tE_bnd so m p' fun y ρ2 H2 μ2 w e2 so2 m2 r2 p2 => ⟨ρ2, μ2, y, so2, m2, rx.ext e2, r2, p2⟩)) fun w s2 ⟨z, H2, I2, r2, ρ2, μ2, y, so2, m2, rx2, ry2, p2⟩ => ?_)
    obtain ⟨t, ht, p3⟩ := p2.bnd.opt_some m2
    refine thn (op_cM S.hK (by have := S.hu; omega) o pins s2 σ H2 v z u w (fun d H3 => d = .bl t ∧ ∃ ρ3, Ext ρ2 H2 ρ3 H3 ∧ MuOk Z ρ3 H3 μ2) I2 ru r2 ⟨ρ2, μ2, x, y, m2, rx2, ry2, ?_⟩) fun d s3 ⟨dv, H3, I3, r3, e3, ρ3, x3, m3⟩ => ?_
    · show PV Z ρ2 H2 μ2 _ (Option.map D.bl (cmpM o μ2 x y))
      rw [ht]
      intro ρ3 H3 dv x3 m3 r3
      cases r3
      exact ⟨rfl, ρ3, x3, m3⟩
    · subst e3
      cases r3
      refine wpAny_truthy_bool ?_
      have p4 := p3.at_ x3
      cases t with
      | false => exact ite_ff ⟨.bl false, H3, I3, rfl, p4.val m3 (.bl _)⟩
      | true => exact ite_tt (ih I3 (so2.ext x3) m3 (ry2.ext x3) r2 p4)
theorem m_chn (S : Su C X Z0 Z Φ cls W) {l : Ch} {op op2 : CmpOp} {ops : List CmpOp} {y y2 : Expr} {ys : List Expr} (ha : PE X a (tE Z W cls (ev Φ ea))) (h : PCh X Z W cls Φ l (op :: op2 :: ops) (y :: y2 :: ys)) : PE X (.Compare a (op :: op2 :: ops) (y :: y2 :: ys) pos) (tE Z W cls (ev Φ (.chn ea l))) := by
  refine ⟨fun pins s σ H Q I hh => ?_⟩
  obtain ⟨ρ, σ', μ, so, m, p⟩ := hh
  unfold ev at p
  refine Compare_chain (thn (ha.run pins s σ H (fun v H1 => ∃ ρ1 μ1 x, SlOk Z ρ1 H1 σ' σ ∧ MuOk Z ρ1 H1 μ1 ∧ Rep Z ρ1 H1 x v ∧ Pst Z ρ1 H1 (QD Z Q) (fun c _ H' _ => W (cls c) none σ H') ((evC Φ l x σ' μ1).bnd fun b μ => .ok (.bl b) μ)) I
    (tE_bnd so m p fun x ρ1 H1 μ1 v e1 so1 m1 r1 p1 => ⟨ρ1, μ1, x, so1, m1, r1, p1⟩)) fun u s1 ⟨v, H1, I1, r1, ρ1, μ1, x, so1, m1, rx, p1⟩ => ?_) h.marks
  exact chainV S h I1 so1 m1 rx r1 p1
theorem chainT (S : Su C X Z0 Z Φ cls W) {l : Ch} {ops : List CmpOp} {ys : List Expr} (h : PCh X Z W cls Φ l ops ys) : ∀ {pins : List (Addr × Obj)} {s : Shared} {σ : L2.St} {σ' : Sl} {H : Hp} {μ : Mu} {ρ : List Addr} {x : D} {v : V} {u : Value} {Q : Bool → Hp → Prop},
    Inv X pins σ H s → SlOk Z ρ H σ' σ → MuOk Z ρ H μ → Rep Z ρ H x v → RelV v u → Pst Z ρ H (fun b _ H' _ => Q b H') (fun c _ H' _ => W (cls c) none σ H') (evC Φ l x σ' μ) →
    wpAny (model X.prog X.w) X.A (testChain pos u ops (evalEach ys X.env)) (TP X pins σ Q) X.xe s := by
  induction h with
  | last hb hs =>
    rename_i o b eb
    intro pins s σ σ' H μ ρ x v u Q I so m rx ru p
    unfold evC at p
    refine test_last (thn (hb.run pins s σ H (fun w H2 => rC Z o v w H2 (fun d H3 => ∃ k, d = .bl k ∧ Q k H3)) I (tE_bnd so m p fun y ρ2 H2 μ2 w e2 so2 m2 r2 p2 => ⟨ρ2, μ2, x, y, m2, rx.ext e2, r2, ?_⟩)) fun w s2 ⟨y, H2, I2, r2, q2⟩ =>
      thn (op_cM S.hK (by have := S.hu; omega) o pins s2 σ H2 _ _ _ _ _ I2 ru r2 q2) fun d s3 ⟨dv, H3, I3, r3, k, e3, q3⟩ => ?_)
    · obtain ⟨k, hk, p3⟩ := p2.opt_some m2
      show PV Z ρ2 H2 μ2 _ (Option.map D.bl (cmpM o μ2 x y))
      rw [hk] at p2 ⊢
      intro ρ3 H3 dv e3 m3 r3
      cases r3
      exact ⟨k, rfl, p2 ρ3 H3 e3 m3⟩
    · subst e3
      cases r3
      exact wpAny_truthy_bool ⟨H3, I3, q3⟩
  | more hb hl ih =>
    rename_i o b eb l op ops y ys
    intro pins s σ σ' H μ ρ x v u Q I so m rx ru p
    unfold evC at p
    refine test_link (thn (hb.run pins s σ H (fun w H2 => ∃ ρ2 μ2 y, SlOk Z ρ2 H2 σ' σ ∧ MuOk Z ρ2 H2 μ2 ∧ Rep Z ρ2 H2 x v ∧ Rep Z ρ2 H2 y w ∧ Pst Z ρ2 H2 (fun b _ H' _ => Q b H') (fun c _ H' _ => W (cls c) none σ H') ((opt (cmpM o μ2 x y) μ2).bnd fun t μ => if t = true then evC Φ l y σ' μ else .ok false μ)) I
      (tE_bnd so m p fun y ρ2 H2 μ2 w e2 so2 m2 r2 p2 => ⟨ρ2, μ2, y, so2, m2, rx.ext e2, r2, p2⟩)) fun w s2 ⟨z, H2, I2, r2, ρ2, μ2, y, so2, m2, rx2, ry2, p2⟩ => ?_)
    obtain ⟨t, ht, p3⟩ := p2.bnd.opt_some m2
    refine thn (op_cM S.hK (by have := S.hu; omega) o pins s2 σ H2 v z u w (fun d H3 => d = .bl t ∧ ∃ ρ3, Ext ρ2 H2 ρ3 H3 ∧ MuOk Z ρ3 H3 μ2) I2 ru r2 ⟨ρ2, μ2, x, y, m2, rx2, ry2, ?_⟩) fun d s3 ⟨dv, H3, I3, r3, e3, ρ3, x3, m3⟩ => ?_
    · show PV Z ρ2 H2 μ2 _ (Option.map D.bl (cmpM o μ2 x y))
      rw [ht]
      intro ρ3 H3 dv x3 m3 r3
      cases r3
      exact ⟨rfl, ρ3, x3, m3⟩
    · subst e3
      cases r3
      refine wpAny_truthy_bool ?_
      have p4 := p3.at_ x3
      cases t with
      | false => exact ite_ff ⟨H3, I3, p4.ok m3⟩
      | true => exact ite_tt (ih I3 (so2.ext x3) m3 (ry2.ext x3) r2 p4)
theorem m_tchn (S : Su C X Z0 Z Φ cls W) {l : Ch} {op op2 : CmpOp} {ops : List CmpOp} {y y2 : Expr} {ys : List Expr} (ha : PE X a (tE Z W cls (ev Φ ea))) (h : PCh X Z W cls Φ l (op :: op2 :: ops) (y :: y2 :: ys)) : PT X (.Compare a (op :: op2 :: ops) (y :: y2 :: ys) pos) (tT Z W cls (evT Φ (.chn ea l))) := by
  refine ⟨fun pins s σ H Q I hh => ?_⟩
  obtain ⟨ρ, σ', μ, so, m, p⟩ := hh
  unfold evT at p
  refine isTrue_chain (thn (ha.run pins s σ H (fun v H1 => ∃ ρ1 μ1 x, SlOk Z ρ1 H1 σ' σ ∧ MuOk Z ρ1 H1 μ1 ∧ Rep Z ρ1 H1 x v ∧ Pst Z ρ1 H1 (fun b _ H' _ => Q b H') (fun c _ H' _ => W (cls c) none σ H') (evC Φ l x σ' μ1)) I
    (tE_bnd so m p fun x ρ1 H1 μ1 v e1 so1 m1 r1 p1 => ⟨ρ1, μ1, x, so1, m1, r1, p1⟩)) fun u s1 ⟨v, H1, I1, r1, ρ1, μ1, x, so1, m1, rx, p1⟩ => ?_) h.marks
  exact chainT S h I1 so1 m1 rx r1 p1
/-! ### list(..) -/
theorem m_lsof (S : Su C X Z0 Z Φ cls W) {cl : Bool} {p : Pos} (ha : PE X a (tE Z W cls (ev Φ ea))) (hg : Gl X "list") (hst : nst a = true) : PE X (.Call (.Name "list" p) [a] [] pos) (tE Z W cls (ev Φ (.lsof cl ea))) := by
  refine ⟨fun pins s σ H Q I h => ?_⟩
  obtain ⟨ρ, σ', μ, so, m, p⟩ := h
  unfold ev at p
  have hc : CallR X (.type "list") (fun xs H Q => ∃ ρ1 μ1 x v, xs = [v] ∧ MuOk Z ρ1 H μ1 ∧ Rep Z ρ1 H x v ∧ Pst Z ρ1 H (QD Z Q) (fun c _ H' _ => W (cls c) none σ H') ((opt (lsofM μ1 x) μ1).bnd fun xs μ => fresh cl (.lst xs) μ)) := by
    intro pins s σ2 H xs us Q I rs ⟨ρ1, μ1, x, v, e, m1, r1, p1⟩
    subst e
    obtain ⟨ds, hds, p2⟩ := p1.bnd.opt_some m1
    cases x with
    | dic ks vs =>
      cases hds
      cases r1
      rename_i q kvs hd hn rv
      refine call_listD S.calm pins s σ2 H _ us Q I rs ⟨q, kvs, rfl, hd, fun a ha => ?_⟩
      refine p2.fresh_lst m1 ?_ a ha
      have key : ∀ kvs : List (L2.Key × V), Reps Z ρ1 H (kvs.map fun p => keyD p.1) (kvs.map fun kv => kV kv.1) := by
        intro kvs
        induction kvs with
        | nil => exact .nil
        | cons p r ih =>
          refine .cons ?_ ih
          cases p with
          | mk k w =>
            cases k with
            | inl i => exact .int i
            | inr z =>
              have h := Rep.str (Z := Z) (ρ := ρ1) (H := H) z.cps.toList
              rw [mkS_of] at h
              exact h
      exact key kvs
    | _ =>
      obtain ⟨q, ys, rfl, sq, ry⟩ := seqOf_rep m1 r1 hds
      exact call_list_of pins s σ2 H _ us Q I rs ⟨q, ys, rfl, S.hK ▸ sq, fun a ha => p2.fresh_lst m1 ry a ha⟩
  refine (pe_callTy hc hg (S.bl _ (by decide)) (by decide +kernel) (pa_cons ha pa_nil (star_of hst)) (by decide) (by decide) (star_of hst) rfl).run pins s σ H Q I ?_
  exact tE_bnd so m p fun x ρ1 H1 μ1 v e1 so1 m1 r1 p1 => ⟨ρ1, μ1, x, v, rfl, m1, r1, p1⟩
theorem rgV_reps (i j : Int) : Reps Z ρ H ((List.range (j - i).toNat).map fun (k : Nat) => D.int (i + k)) (rgV i j) := by
  unfold rgV
  generalize (j - i).toNat = n
  generalize List.range n = l
  induction l with
  | nil => exact .nil
  | cons k l ih => exact .cons (.int _) ih
theorem m_lrng1 (S : Su C X Z0 Z Φ cls W) {cl : Bool} {p p2 pos2 : Pos} (ha : PE X a (tE Z W cls (ev Φ ea))) (hg : Gl X "list") (hg2 : Gl X "range") (hst : nst a = true) :
    PE X (.Call (.Name "list" p) [.Call (.Name "range" p2) [a] [] pos2] [] pos) (tE Z W cls (ev Φ (.lrng cl (.cons ea .nil)))) := by
  refine ⟨fun pins s σ H Q I h => (pe_listRg S.calm hg (S.bl _ (by decide)) (prg_1 hg2 (S.bl _ (by decide)) ha (star_of hst))).run pins s σ H Q I ?_⟩
  obtain ⟨ρ, σ', μ, so, m, p⟩ := h
  simp only [ev, evs] at p
  have p' : Pst Z ρ H (QD Z Q) (fun c _ H' _ => W (cls c) none σ H') ((ev Φ ea σ' μ).bnd fun x μ => (opt (rngM [x]) μ).bnd fun xs μ => fresh cl (.lst xs) μ) := by
    cases h : ev Φ ea σ' μ <;> (rw [h] at p; exact p)
  refine tE_bnd so m p' fun x ρ1 H1 μ1 v e1 so1 m1 r1 p1 => ?_
  obtain ⟨l, hq, p2⟩ := p1.bnd.opt_some m1
  unfold rngM at hq
  split at hq <;> try (cases hq; done)
  · rename_i j e
    cases e
    cases r1
    obtain ⟨⟨b1, b2, b3, b4⟩, hl | hl⟩ := rngL_ok hq
    · refine ⟨_, rfl, ⟨by omega, by omega, by omega, by omega, by omega⟩, fun q hq => ?_⟩
      rw [hl.2] at p2
      exact p2.fresh_lst m1 (rgV_reps 0 j) q hq
    · omega
  all_goals (rename_i e; cases e)
theorem m_lrng2 (S : Su C X Z0 Z Φ cls W) {cl : Bool} {p p2 pos2 : Pos} (ha : PE X a (tE Z W cls (ev Φ ea))) (hb : PE X b (tE Z W cls (ev Φ eb))) (hg : Gl X "list") (hg2 : Gl X "range") (hst : nst a = true) (hst2 : nst b = true) :
    PE X (.Call (.Name "list" p) [.Call (.Name "range" p2) [a, b] [] pos2] [] pos) (tE Z W cls (ev Φ (.lrng cl (.cons ea (.cons eb .nil))))) := by
  refine ⟨fun pins s σ H Q I h => (pe_listRg S.calm hg (S.bl _ (by decide)) (prg_2 hg2 (S.bl _ (by decide)) ha hb (star_of hst) (star_of hst2) (nostar (by simp [hst2])).1)).run pins s σ H Q I ?_⟩
  obtain ⟨ρ, σ', μ, so, m, p⟩ := h
  simp only [ev, evs] at p
  have p' : Pst Z ρ H (QD Z Q) (fun c _ H' _ => W (cls c) none σ H') ((ev Φ ea σ' μ).bnd fun x μ => (ev Φ eb σ' μ).bnd fun y μ => (opt (rngM [x, y]) μ).bnd fun xs μ => fresh cl (.lst xs) μ) := by
    cases h : ev Φ ea σ' μ with
    | ok x μ1 => cases h2 : ev Φ eb σ' μ1 <;> (rw [h] at p; simp only [Mi.R.bnd] at p ⊢; rw [h2] at p ⊢; exact p)
    | exc c μ1 => rw [h] at p; exact p
    | no => rw [h] at p; exact p
  refine tE_bnd so m p' fun x ρ1 H1 μ1 v e1 so1 m1 r1 p1 => tE_bnd so1 m1 p1 fun y ρ2 H2 μ2 u e2 so2 m2 r2 p2 => ?_
  obtain ⟨l, hq, p3⟩ := p2.bnd.opt_some m2
  unfold rngM at hq
  split at hq <;> try (cases hq; done)
  · rename_i e; cases e
  · rename_i i j e
    cases e
    cases r1
    cases r2
    obtain ⟨⟨b1, b2, b3, b4⟩, hl | hl⟩ := rngL_ok hq
    · refine ⟨_, _, rfl, rfl, ⟨by omega, by omega, by omega, by omega, by omega⟩, fun q hq => ?_⟩
      rw [hl.2] at p3
      exact p3.fresh_lst m2 (rgV_reps i j) q hq
    · omega
  · rename_i e; cases e
end
end Mi
set_option Elab.async false
set_option linter.all false
set_option maxRecDepth 100000
set_option maxHeartbeats 4000000
/-! Md: dict displays. -/
namespace Mi
open PySem PySem.Spec PyProof.Rows L2
section
variable {C : Cfg} {X : Cx} {Z0 Z : Zx} {Φ : Env} {cls : Nat → Value} {W : WX} {α β : Type}
variable {ρ : List Addr} {H : Hp} {μ : Mu} {σ' : Sl} {σ : L2.St} {Q : VK}
variable {a b c ast tg : Expr} {ea eb ec : E} {pos : Pos} {as : List Expr} {es : Es}
theorem hasK_any (k : L2.Key) (kvs : List (L2.Key × V)) : hasK (keyD k) (kvs.map fun p => keyD p.1) = kvs.any fun kv => decide (kv.1 = k) := by
  induction kvs with
  | nil => rfl
  | cons p r ih =>
    unfold hasK at ih ⊢
    simp only [List.map_cons, List.any_cons, keyEq_key, ih]
theorem putKs_eq (k : L2.Key) (v : V) (kvs : List (L2.Key × V)) : putKs (keyD k) (kvs.map fun p => keyD p.1) = (putK kvs k v).map fun p => keyD p.1 := by
  unfold putKs putK
  rw [hasK_any]
  by_cases h : (kvs.any fun kv => decide (kv.1 = k)) = true
  · rw [if_pos h, if_pos h, List.map_map]
    refine List.map_congr_left fun p _ => ?_
    simp only [Function.comp]
    split <;> rfl
  · rw [if_neg h, if_neg h, List.map_append]
    rfl
theorem putV_reps {d : D} {v : V} (k : L2.Key) (r : Rep Z ρ H d v) : ∀ {kvs : List (L2.Key × V)} {vs : List D}, Reps Z ρ H vs (kvs.map (·.2)) → Reps Z ρ H (putV (keyD k) d (kvs.map fun p => keyD p.1) vs) ((putK kvs k v).map (·.2)) := by
  intro kvs vs rs
  unfold putV putK
  rw [hasK_any]
  by_cases h : (kvs.any fun kv => decide (kv.1 = k)) = true
  · rw [if_pos h, if_pos h]
    clear h
    induction kvs generalizing vs with
    | nil => cases rs; exact .nil
    | cons p kvs ih =>
      cases rs with
      | cons r1 r2 =>
        simp only [List.map_cons, repV, keyEq_key]
        refine .cons ?_ (ih r2)
        by_cases e : p.1 = k
        · rw [if_pos (by simpa using e), if_pos e]; exact r
        · rw [if_neg (by simpa using e), if_neg e]; exact r1
  · rw [if_neg h, if_neg h, List.map_append]
    exact rs.append (.cons r .nil)
/-- the pairs of a display and their readings -/
inductive PDs (X : Cx) (Z : Zx) (W : WX) (cls : Nat → Value) (Φ : Env) : Es → List (Option Expr) → List Expr → Nat → Prop
  | nil : PDs X Z W cls Φ .nil [] [] 0
  | cons {k v : Expr} {ek ev' : E} {r : Es} {ks : List (Option Expr)} {vs : List Expr} {n : Nat} : (∀ D : Addr, PE X k (tE (Z.with D) W cls (ev Φ ek))) → (∀ D : Addr, PE X v (tE (Z.with D) W cls (ev Φ ev'))) → PDs X Z W cls Φ r ks vs n →
      PDs X Z W cls Φ (.cons ek (.cons ev' r)) (some k :: ks) (v :: vs) (n + 1)
/-- the readings of the pairs -/
def trsM (Z : Zx) (W : WX) (cls : Nat → Value) (Φ : Env) : Es → List (TE × TE)
  | .cons k (.cons v r) => ((fun σ H Q => ∃ D, tE (Z.with D) W cls (ev Φ k) σ H Q), (fun σ H Q => ∃ D, tE (Z.with D) W cls (ev Φ v) σ H Q)) :: trsM Z W cls Φ r
  | _ => []
theorem PDs.pps {es : Es} {ks : List (Option Expr)} {vs : List Expr} {n : Nat} (h : PDs X Z W cls Φ es ks vs n) : PPs X pos ks vs (trsM Z W cls Φ es) := by
  induction h with
  | nil => exact pps_nil
  | cons hk hv _ ih => exact pps_cons ⟨fun pins s σ H Q I ⟨D, h⟩ => (hk D).run pins s σ H Q I h⟩ ⟨fun pins s σ H Q I ⟨D, h⟩ => (hv D).run pins s σ H Q I h⟩ ih
theorem PDs.len {es : Es} {ks : List (Option Expr)} {vs : List Expr} {n : Nat} (h : PDs X Z W cls Φ es ks vs n) : ks.all (·.isSome) = true ∧ ks.length = vs.length ∧ ks.length = n := by
  induction h with
  | nil => exact ⟨rfl, rfl, rfl⟩
  | cons _ _ _ ih => exact ⟨by simp [ih.1], by simp [ih.2.1], by simp [ih.2.2]⟩
theorem mergeK_snoc (kvs : List (L2.Key × V)) (k : L2.Key) (v : V) (more : List (L2.Key × V)) : mergeK kvs ((k, v) :: more) = mergeK (putK kvs k v) more := rfl
theorem pairs_run {D : Addr} {ρ0 : List Addr} {H0 : Hp} (h0 : H0 D = none) {es : Es} {ks : List (Option Expr)} {vs : List Expr} {n : Nat} (h : PDs X Z W cls Φ es ks vs n) : ∀ {ρ : List Addr} {H : Hp} {μ : Mu} {kvs : List (L2.Key × V)} {dv : List Mi.D} {Qp : List (V × V) → Hp → Prop} {f : List Mi.D × List Mi.D → Mu → Mi.R Mi.D},
    SlOk (Z.with D) ρ H σ' σ → MuOk (Z.with D) ρ H μ → Ext ρ0 H0 ρ H → H D = some (.dK []) → Reps (Z.with D) ρ H dv (kvs.map (·.2)) →
    Pst Z ρ0 H0 (QD Z Q) (fun c _ H' _ => W (cls c) none σ H') ((evd Φ es σ' μ (kvs.map fun p => keyD p.1) dv).bnd f) →
    (∀ ρ2 H2 μ2 more dv2, SlOk (Z.with D) ρ2 H2 σ' σ → MuOk (Z.with D) ρ2 H2 μ2 → Ext ρ0 H0 ρ2 H2 → H2 D = some (.dK []) → more.length = n → Reps (Z.with D) ρ2 H2 dv2 ((mergeK kvs more).map (·.2)) →
      Pst Z ρ0 H0 (QD Z Q) (fun c _ H' _ => W (cls c) none σ H') (f ((mergeK kvs more).map (fun p => keyD p.1), dv2) μ2) → Qp (more.map fun kv => (kV kv.1, kv.2)) H2) → tPairs (trsM Z W cls Φ es) σ H Qp := by
  induction h with
  | nil =>
    intro ρ H μ kvs dv Qp f so m x hD rs p hQ
    unfold evd at p
    exact hQ ρ H μ [] dv so m x hD rfl rs p
  | cons hk hv hr ih =>
    rename_i k v ek ev' r ks vs n
    intro ρ H μ kvs dv Qp f so m x hD rs p hQ
    have stay : ∀ {ρ1 H1}, Ext ρ H ρ1 H1 → H1 D = some (.dK []) := fun y => y.keep D _ hD (m.exn D List.mem_cons_self) (fun ps z => by cases z)
    unfold evd at p
    cases h1 : ev Φ ek σ' μ with
    | no => rw [h1] at p; exact p.elim
    | exc c μ1 =>
      rw [h1] at p
      exact ⟨D, ρ, σ', μ, so, m, by rw [h1]; exact fun ρ1 H1 x1 m1 => p ρ1 H1 (x.trans x1) m1.less⟩
    | ok kd μ1 =>
      rw [h1] at p
      dsimp only [Mi.R.bnd] at p
      refine ⟨D, ρ, σ', μ, so, m, ?_⟩
      rw [h1]
      intro ρ1 H1 x1 m1 kv rk
      have so1 := so.ext x1
      cases h2 : ev Φ ev' σ' μ1 with
      | no => rw [h2] at p; exact p.elim
      | exc c μ2 =>
        rw [h2] at p
        exact ⟨D, ρ1, σ', μ1, so1, m1, by rw [h2]; exact fun ρ2 H2 x2 m2 => p ρ2 H2 ((x.trans x1).trans x2) m2.less⟩
      | ok vd μ2 =>
        rw [h2] at p
        dsimp only at p
        refine ⟨D, ρ1, σ', μ1, so1, m1, ?_⟩
        rw [h2]
        intro ρ2 H2 x2 m2 vv rv
        by_cases hkk : (isKey kd && (kvs.map fun p => keyD p.1).all isKey) = true
        · rw [if_pos hkk] at p
          simp only [Bool.and_eq_true] at hkk
          obtain ⟨kk, rfl, hkv⟩ := keyD_of kd hkk.1
          have ek' := hkv rk
          subst ek'
          have x12 := x1.trans x2
          rw [putKs_eq kk vv] at p
          refine ih (so1.ext x2) m2 (x.trans x12) (stay x12) (putV_reps kk rv (rs.ext x12)) p fun ρ3 H3 μ3 more dv3 so3 m3 x3 hD3 hl r3 p3 => ?_
          have := hQ ρ3 H3 μ3 ((kk, vv) :: more) dv3 so3 m3 x3 hD3 (by simp [hl]) r3 p3
          exact this
        · rw [if_neg hkk] at p
          exact p.elim
theorem m_dic (S : Su C X Z0 Z Φ cls W) {cl : Bool} {n : Nat} {keys : List (Option Expr)} {values : List Expr} (h : PDs X Z W cls Φ es keys values (n + 1)) (h15 : n + 1 ≤ 15) : PE X (.Dict keys values pos) (tE Z W cls (ev Φ (.dic cl es))) := by
  obtain ⟨l1, l2, l3⟩ := h.len
  refine ⟨fun pins s σ H Q I hh => (pe_disp h.pps l1 l2 (fun e => by rw [e] at l3; cases l3) (by omega)).run pins s σ H Q I ?_⟩
  obtain ⟨ρ, σ', μ, so, m, p⟩ := hh
  unfold ev at p
  intro D hD
  have x0 : Ext ρ H ρ (upd H D (.dK [])) := (Ext.refl _ _).upd_new hD
  refine pairs_run hD h (kvs := []) (dv := []) (so.later x0 hD) (m.start hD) x0 upd_same .nil p fun ρ2 H2 μ2 more dv2 so2 m2 x2 hD2 hl r2 p2 => ?_
  refine ⟨hD2, more, rfl, by omega, ?_⟩
  have hn : ∀ ps, (HO.dK ([] : List (L2.Key × V))) ≠ .tbl ps := fun ps z => by cases z
  exact p2.made (o := .dK (mergeK [] more)) (x2.upd_new hD) hD m.exl (m2.made hD2 hn) upd_same (fun ps z => by cases z) ⟨_, upd_same, rfl, r2.made⟩ fun o => .dic (.inl upd_same) o r2.made.less
theorem m_dic0 (S : Su C X Z0 Z Φ cls W) {cl : Bool} : PE X (.Dict [] [] pos) (tE Z W cls (ev Φ (.dic cl .nil))) := by
  refine ⟨fun pins s σ H Q I hh => pe_dnewK.run pins s σ H Q I ?_⟩
  obtain ⟨ρ, σ', μ, so, m, p⟩ := hh
  unfold ev evd at p
  intro D hD
  have p' : Pst Z ρ H (QD Z Q) (fun c _ H' _ => W (cls c) none σ H') (fresh cl (.dic [] []) μ) := p
  exact p'.fresh_dic m (kvs := []) rfl .nil D hD
end
end Mi
set_option Elab.async false
set_option linter.all false
set_option maxRecDepth 100000
set_option maxHeartbeats 4000000
/-! Ms: statements. -/
namespace Mi
open PySem PySem.Spec PyProof.Rows L2
/-- what is wanted behind a statement -/
def QF (Z : Zx) (D : Ends) : Fl → List Addr → Hp → Mu → Prop
  | .nx σ', ρ, H, _ => ∀ σ, SlOk Z ρ H σ' σ → D.nx σ H
  | .ret d, ρ, H, _ => ∀ v, Rep Z ρ H d v → D.rt v H
  | .brk σ', ρ, H, _ => ∀ σ, SlOk Z ρ H σ' σ → D.bk σ H
  | .ct σ', ρ, H, _ => ∀ σ, SlOk Z ρ H σ' σ → D.ct σ H
/-- .. of an exception -/
abbrev EF (W : WX) (cls : Nat → Value) : Nat → List Addr → Hp → Mu → Prop := fun c _ H' _ => ∀ σ, W (cls c) none σ H'
def tSt (Z : Zx) (W : WX) (cls : Nat → Value) (f : Sl → Mu → Mi.R Fl) : TS := fun D σ H => ∃ ρ σ' μ, SlOk Z ρ H σ' σ ∧ MuOk Z ρ H μ ∧ Pst Z ρ H (QF Z D) (EF W cls) (f σ' μ)
section
variable {C : Cfg} {X : Cx} {Z0 Z : Zx} {Φ : Env} {cls : Nat → Value} {W : WX} {α β : Type}
variable {ρ : List Addr} {H : Hp} {μ : Mu} {σ' : Sl} {σ : L2.St} {Q : VK} {D : Ends}
variable {a b c ast tg o i e : Expr} {ea eb ec eo ei ee : E} {pos : Pos} {as : List Expr} {es : Es} {st : Stmt} {sts : List Stmt}
theorem sE_bnd {a : Sl → Mu → Mi.R Mi.D} {f : Mi.D → Mu → Mi.R β} {QQ : β → List Addr → Hp → Mu → Prop} (so : SlOk Z ρ H σ' σ) (m : MuOk Z ρ H μ) (p : Pst Z ρ H QQ (EF W cls) ((a σ' μ).bnd f))
    (hQ : ∀ x ρ1 H1 μ1 v, Ext ρ H ρ1 H1 → SlOk Z ρ1 H1 σ' σ → MuOk Z ρ1 H1 μ1 → Rep Z ρ1 H1 x v → Pst Z ρ1 H1 QQ (EF W cls) (f x μ1) → Q v H1) : tE Z W cls a σ H Q :=
  ⟨ρ, σ', μ, so, m, p.bnd.mono (fun x ρ1 H1 μ1 e m1 q v r => hQ x ρ1 H1 μ1 v e (so.ext e) m1 r q) fun _ _ _ _ _ _ h => h σ⟩
theorem sT_bnd {a : Sl → Mu → Mi.R Bool} {f : Bool → Mu → Mi.R β} {QQ : β → List Addr → Hp → Mu → Prop} {Q : Bool → Hp → Prop} (so : SlOk Z ρ H σ' σ) (m : MuOk Z ρ H μ) (p : Pst Z ρ H QQ (EF W cls) ((a σ' μ).bnd f))
    (hQ : ∀ b ρ1 H1 μ1, Ext ρ H ρ1 H1 → SlOk Z ρ1 H1 σ' σ → MuOk Z ρ1 H1 μ1 → Pst Z ρ1 H1 QQ (EF W cls) (f b μ1) → Q b H1) : tT Z W cls a σ H Q :=
  ⟨ρ, σ', μ, so, m, p.bnd.mono (fun b ρ1 H1 μ1 e m1 q => hQ b ρ1 H1 μ1 e (so.ext e) m1 q) fun _ _ _ _ _ _ h => h σ⟩
theorem sL_bnd {a : Sl → Mu → Mi.R (List Mi.D)} {f : List Mi.D → Mu → Mi.R β} {QQ : β → List Addr → Hp → Mu → Prop} {Q : List V → Hp → Prop} (so : SlOk Z ρ H σ' σ) (m : MuOk Z ρ H μ) (p : Pst Z ρ H QQ (EF W cls) ((a σ' μ).bnd f))
    (hQ : ∀ xs ρ1 H1 μ1 vs, Ext ρ H ρ1 H1 → SlOk Z ρ1 H1 σ' σ → MuOk Z ρ1 H1 μ1 → Reps Z ρ1 H1 xs vs → Pst Z ρ1 H1 QQ (EF W cls) (f xs μ1) → Q vs H1) : tL Z W cls a σ H Q :=
  ⟨ρ, σ', μ, so, m, p.bnd.mono (fun x ρ1 H1 μ1 e m1 q v r => hQ x ρ1 H1 μ1 v e (so.ext e) m1 r q) fun _ _ _ _ _ _ h => h σ⟩
/-! ### lists of statements -/
theorem s_nil : PSs X [] (tSt Z W cls (rns Φ .nil)) := by
  refine ⟨fun pins s σ H D I h => pss_nil.run pins s σ H D I ?_⟩
  obtain ⟨ρ, σ', μ, so, m, p⟩ := h
  unfold rns at p
  exact p.ok m σ so
theorem s_cons {s : S} {r : Ss} (h1 : PS X st (tSt Z W cls (rn Φ s))) (h2 : PSs X sts (tSt Z W cls (rns Φ r))) : PSs X (st :: sts) (tSt Z W cls (rns Φ (.cons s r))) := by
  refine ⟨fun pins s σ H D I h => (pss_cons h1 h2).run pins s σ H D I ?_⟩
  obtain ⟨ρ, σ', μ, so, m, p⟩ := h
  unfold rns seqF at p
  refine ⟨ρ, σ', μ, so, m, p.bnd.mono (fun fl ρ1 H1 μ1 e1 m1 q => ?_) fun _ _ _ _ _ _ h => h⟩
  cases fl with
  | nx σ1 => exact fun σ2 so2 => ⟨ρ1, σ1, μ1, so2, m1, q⟩
  | ret d => exact q.ok m1
  | brk σ1 => exact q.ok m1
  | ct σ1 => exact q.ok m1
/-- a docstring does nothing -/
theorem s_doc {x : Str} {j : Nat} {p1 p2 : Pos} {r : Ss} (h : PSs X sts (tSt Z W cls (rns Φ r))) : PSs X (.Expr (.Constant (.str x) j p1) p2 :: sts) (tSt Z W cls (rns Φ r)) := by
  refine ⟨fun pins s σ H D I hh => (pss_cons ps_doc h).run pins s σ H D I ?_⟩
  exact hh
theorem s_pass : PS X (.Pass pos) (tSt Z W cls (rn Φ .pass)) := by
  refine ⟨fun pins s σ H D I h => ps_pass.run pins s σ H D I ?_⟩
  obtain ⟨ρ, σ', μ, so, m, p⟩ := h
  unfold rn at p
  exact p.ok m σ so
theorem s_brk : PS X (.Break pos) (tSt Z W cls (rn Φ .brk)) := by
  refine ⟨fun pins s σ H D I h => ps_break.run pins s σ H D I ?_⟩
  obtain ⟨ρ, σ', μ, so, m, p⟩ := h
  unfold rn at p
  exact p.ok m σ so
theorem s_ct : PS X (.Continue pos) (tSt Z W cls (rn Φ .ct)) := by
  refine ⟨fun pins s σ H D I h => ps_continue.run pins s σ H D I ?_⟩
  obtain ⟨ρ, σ', μ, so, m, p⟩ := h
  unfold rn at p
  exact p.ok m σ so
/-! ### assignments -/
theorem s_asg (he : PE X e (tE Z W cls (ev Φ ee))) {t : Tg} (hg : PG X tg (gM Z t)) (hs : swapsWithSole [tg] e pos.line X.env = pure false) (hw : swappedStores [tg] e X.env = pure none) (hst : nst tg = true) : PS X (.Assign [tg] e pos) (tSt Z W cls (rn Φ (.asg t ee))) := by
  have h1 : (assignEach [tg] X.env).map (·.2) = [assign tg X.env] := by
    cases tg <;> first | rfl | cases hst
  refine ⟨fun pins s σ H D I h => (ps_asg he hg hs hw h1).run pins s σ H D I ?_⟩
  obtain ⟨ρ, σ', μ, so, m, p⟩ := h
  unfold rn at p
  refine sE_bnd so m p fun x ρ1 H1 μ1 v e1 so1 m1 r1 p1 => ?_
  obtain ⟨σ2, hb, p2⟩ := p1.bnd.opt_some m1
  exact ⟨ρ1, σ', μ1, x, σ2, so1, m1, r1, hb, fun σ3 so3 _ => p2.ok m1 σ3 so3⟩
theorem s_setLc (S : Su C X Z0 Z Φ cls W) {elt tg iter : Expr} {ifs : List Expr} {scope : Scope} {own : List (Str × Nat)} {it : Mi.It} {t : Tg} {q : Eo} {e : E} {cl : Bool} {spos py : Pos} {j : Nat} {y : Str} (hy : X.N[j]? = some y) (hyl : X.env.scope.names.lookup y = some .local)
    (hsw : swapsWith (.ListComp elt [⟨tg, iter, ifs, 0⟩] scope pos) (some (.Name y py)) spos.line X.env = pure true) (hi : PI X tg iter (tI Z W cls (evi Φ it))) (ok : BlkOk X.N X.env.scope scope own) (hown : own.map (·.2) = tgS t)
    (hg : ∀ (D : Addr) (s : Shared) (H : Hp) (C : Addr) (cl : List (Str × Addr)) (fp : List Addr), PG (X.blk s H scope (compEnvC scope cl C X.env) fp) tg (gM (Z.with D) t))
    (ht : ∀ (D : Addr) (s : Shared) (H : Hp) (C : Addr) (cl : List (Str × Addr)) (fp : List Addr), PTs (X.blk s H scope (compEnvC scope cl C X.env) fp) ifs (tT (Z.with D) W0 cls (evq Φ q)))
    (he : ∀ (D : Addr) (s : Shared) (H : Hp) (C : Addr) (cl : List (Str × Addr)) (fp : List Addr), PE (X.blk s H scope (compEnvC scope cl C X.env) fp) elt (tE (Z.with D) W0 cls (ev Φ e)))
    (hs : nset iter = true) : PS X (.Assign [.Name y py] (.ListComp elt [⟨tg, iter, ifs, 0⟩] scope pos) spos) (tSt Z W cls (rn Φ (.asg (.one j) (.comp cl t it q e)))) := by
  refine ⟨fun pins s σ H D I h => (ps_setLc (own := own) S.calm S.nd hy hyl hsw hi ok
    (g := lcG Z t) (tt := lcT Z cls Φ q) (te := lcE Z cls Φ e)
    (fun s H C cl fp => ⟨fun pins s' σ H' v u Q I r ⟨D, h⟩ => (hg D s H C cl fp).run pins s' σ H' v u Q I r h⟩)
    (fun s H C cl fp => ⟨fun pins s' σ H' Q I ⟨D, h⟩ => (ht D s H C cl fp).run pins s' σ H' Q I h⟩)
    (fun s H C cl fp => ⟨fun pins s' σ H' Q I ⟨D, h⟩ => (he D s H C cl fp).run pins s' σ H' Q I h⟩) (folded_of hs)).run pins s σ H D I ?_⟩
  obtain ⟨ρ, σ', μ, so, m, p⟩ := h
  unfold rn at p
  refine tLc_of hown (sE_bnd so m p fun x ρ1 H1 μ1 v e1 so1 m1 r1 p1 => ?_)
  obtain ⟨σ2, hb, p2⟩ := p1.bnd.opt_some m1
  unfold bindT at hb
  split at hb
  · cases hb
    exact p2.ok m1 _ (so1.set r1)
  · cases hb
theorem s_par2 (S : Su C X Z0 Z Φ cls W) {j k : Nat} {x y : Str} {px py pt : Pos} {kt k2 : Nat} {pt2 : Pos} (hi : X.N[j]? = some x) (hj : X.N[k]? = some y) (hij : j ≠ k) (hx : X.env.scope.names.lookup x = some .local) (hy : X.env.scope.names.lookup y = some .local)
    (ha : PA X [a, b] (tL Z W cls (evs Φ es))) (hw : swappedStores [.Tuple [.Name x px, .Name y py] kt pt] (.Tuple [a, b] k2 pt2) X.env = pure (some [x, y])) :
    PS X (.Assign [.Tuple [.Name x px, .Name y py] kt pt] (.Tuple [a, b] k2 pt2) pos) (tSt Z W cls (rn Φ (.par [j, k] es))) := by
  refine ⟨fun pins s σ H D I h => (ps_par S.calm S.nd hi hj hij hx hy ha hw).run pins s σ H D I ?_⟩
  obtain ⟨ρ, σ', μ, so, m, p⟩ := h
  unfold rn at p
  refine sL_bnd so m p fun xs ρ1 H1 μ1 vs e1 so1 m1 r1 p1 => ?_
  obtain ⟨σ2, hb, p2⟩ := p1.bnd.opt_some m1
  match xs, r1 with
  | [], _ => simp [setSl] at hb
  | [d], _ => simp only [setSl] at hb; split at hb <;> cases hb
  | [d, e], .cons ra (.cons rb .nil) =>
    simp only [setSl] at hb
    split at hb <;> try (cases hb; done)
    split at hb <;> try (cases hb; done)
    cases hb
    exact ⟨_, _, rfl, p2.ok m1 _ ((so1.set ra).set rb)⟩
  | d :: e :: f :: r, _ =>
    simp only [setSl] at hb
    split at hb <;> try (cases hb; done)
    split at hb <;> cases hb
theorem s_par3 (S : Su C X Z0 Z Φ cls W) {j k l : Nat} {x y z : Str} {px py pz pt : Pos} {kt k2 : Nat} {pt2 : Pos} (hi : X.N[j]? = some x) (hj : X.N[k]? = some y) (hl : X.N[l]? = some z) (hij : j ≠ k) (hil : j ≠ l) (hjl : k ≠ l) (hx : X.env.scope.names.lookup x = some .local) (hy : X.env.scope.names.lookup y = some .local) (hz : X.env.scope.names.lookup z = some .local)
    (ha : PA X [a, b, c] (tL Z W cls (evs Φ es))) (hw : swappedStores [.Tuple [.Name x px, .Name y py, .Name z pz] kt pt] (.Tuple [a, b, c] k2 pt2) X.env = pure (some [x, y, z])) :
    PS X (.Assign [.Tuple [.Name x px, .Name y py, .Name z pz] kt pt] (.Tuple [a, b, c] k2 pt2) pos) (tSt Z W cls (rn Φ (.par [j, k, l] es))) := by
  refine ⟨fun pins s σ H D I h => (ps_par3 S.calm S.nd hi hj hl hij hil hjl hx hy hz ha hw).run pins s σ H D I ?_⟩
  obtain ⟨ρ, σ', μ, so, m, p⟩ := h
  unfold rn at p
  refine sL_bnd so m p fun xs ρ1 H1 μ1 vs e1 so1 m1 r1 p1 => ?_
  obtain ⟨σ2, hb, p2⟩ := p1.bnd.opt_some m1
  match xs, r1 with
  | [], _ => simp [setSl] at hb
  | [d], _ => simp only [setSl] at hb; split at hb <;> cases hb
  | [d, e], _ =>
    simp only [setSl] at hb
    split at hb <;> try (cases hb; done)
    split at hb <;> cases hb
  | [d, e, f], .cons ra (.cons rb (.cons rc .nil)) =>
    simp only [setSl] at hb
    split at hb <;> try (cases hb; done)
    split at hb <;> try (cases hb; done)
    split at hb <;> try (cases hb; done)
    cases hb
    exact ⟨_, _, _, rfl, p2.ok m1 _ (((so1.set ra).set rb).set rc)⟩
  | d :: e :: f :: g :: r, _ =>
    simp only [setSl] at hb
    split at hb <;> try (cases hb; done)
    split at hb <;> try (cases hb; done)
    split at hb <;> cases hb
/-! ### return, if -/
theorem s_ret (he : PE X e (tE Z W cls (ev Φ ee))) : PS X (.Return (some e) pos) (tSt Z W cls (rn Φ (.ret ee))) := by
  refine ⟨fun pins s σ H D I h => (ps_ret he).run pins s σ H D I ?_⟩
  obtain ⟨ρ, σ', μ, so, m, p⟩ := h
  unfold rn at p
  exact sE_bnd so m p fun x ρ1 H1 μ1 v e1 so1 m1 r1 p1 => p1.ok m1 v r1
theorem s_retn : PS X (.Return none pos) (tSt Z W cls (rn Φ .retn)) := by
  refine ⟨fun pins s σ H D I h => ps_retN.run pins s σ H D I ?_⟩
  obtain ⟨ρ, σ', μ, so, m, p⟩ := h
  unfold rn at p
  exact p.ok m _ .non
theorem s_ite {sa sb : List Stmt} {ra rb : Ss} (hc : PT X c (tT Z W cls (evT Φ ec))) (ha : PSs X sa (tSt Z W cls (rns Φ ra))) (hb : PSs X sb (tSt Z W cls (rns Φ rb))) : PS X (.If c sa sb pos) (tSt Z W cls (rn Φ (.ite ec ra rb))) := by
  refine ⟨fun pins s σ H D I h => (ps_if hc ha hb).run pins s σ H D I ?_⟩
  obtain ⟨ρ, σ', μ, so, m, p⟩ := h
  unfold rn at p
  refine sT_bnd so m p fun k ρ1 H1 μ1 e1 so1 m1 p1 => ?_
  cases k with
  | true => exact ⟨ρ1, σ', μ1, so1, m1, p1⟩
  | false => exact ⟨ρ1, σ', μ1, so1, m1, p1⟩
theorem s_drop (he : PE X e (tE Z W cls (ev Φ ee))) (hs : swapsWith e none pos.line X.env = pure false) : PS X (.Expr e pos) (tSt Z W cls (rn Φ (.drop ee))) := by
  refine ⟨fun pins s σ H D I h => (ps_expr he hs).run pins s σ H D I ?_⟩
  obtain ⟨ρ, σ', μ, so, m, p⟩ := h
  unfold rn at p
  exact sE_bnd so m p fun x ρ1 H1 μ1 v e1 so1 m1 r1 p1 => p1.ok m1 σ so1
/-! ### loops -/
theorem forF_head {ws : Wt} {b : Mi.D → Sl → Mu → Mi.R Fl} {d : Mi.D} {r : List Mi.D} (h : forF ws b (d :: r) σ' μ ≠ .no) : wOk ws μ = true := by
  unfold forF at h
  split at h
  · assumption
  · exact absurd rfl h
theorem s_for (S : Su C X Z0 Z Φ cls W) {iter : Expr} {it : Mi.It} {t : Tg} {body : List Stmt} {rb : Ss} (hp : PassesOwn (model X.prog X.w) X.A X.env X.xe) (hi : PI X tg iter (tI Z W cls (evi Φ it))) (hg : PG X tg (gM Z t)) (hb : PSs X body (tSt Z W cls (rns Φ rb))) (hs : nset iter = true) :
    PS X (.For tg iter body [] pos) (tSt Z W cls (rn Φ (.for t it rb))) := by
  refine ⟨fun pins s σ H D I h => (ps_for hp S.calm hi hg hb (folded_of hs)).run pins s σ H D I ?_⟩
  obtain ⟨ρ, σ', μ, so, m, p⟩ := h
  unfold rn at p
  refine ⟨ρ, σ', μ, so, m, p.bnd.mono (fun pr ρ1 H1 μ1 e1 m1 q1 J hJ hlen => ?_) fun _ _ _ _ _ _ h => h σ⟩
  obtain ⟨ds, ws⟩ := pr
  simp only at q1 hJ hlen ⊢
  have so1 := so.ext e1
  generalize hf : turnF t (rns Φ rb) = f at q1
  refine ⟨fun i k σ2 H2 => k = ds.length - i ∧ i ≤ ds.length ∧ ∃ ρ2 σ3 μ2, Ext ρ1 H1 ρ2 H2 ∧ SlOk Z ρ2 H2 σ3 σ2 ∧ MuOk Z ρ2 H2 μ2 ∧ Pst Z ρ2 H2 (QF Z D) (EF W cls) (forF ws f (ds.drop i) σ3 μ2), ⟨_, rfl, Nat.zero_le _, ρ1, σ', μ1, .refl _ _, so1, m1, q1⟩, ?_⟩
  rintro i k σ2 H2 ⟨rfl, hil, ρ2, σ3, μ2, x2, so2, m2, p2⟩
  have hL : ∀ a ∈ ([] : List Addr), H1 a = none := fun a ha => by cases ha
  by_cases hi : i < ds.length
  · right
    have hd : ds[i]? = some ds[i] := List.getElem?_eq_getElem hi
    have hdrop : ds.drop i = ds[i] :: ds.drop (i + 1) := List.drop_eq_getElem_cons hi
    generalize ds[i] = d at hd hdrop
    rw [hdrop] at p2
    have hw := forF_head p2.ne
    obtain ⟨hgo, -⟩ := hJ [] i ρ2 H2 μ2 hL x2 m2 hw
    obtain ⟨g1, g2⟩ := hgo d hd
    unfold forF at p2
    rw [if_pos hw] at p2
    let N : L2.St → Hp → Prop := fun σ4 H4 => ∃ ρ4 σ5 μ4, Ext ρ1 H1 ρ4 H4 ∧ SlOk Z ρ4 H4 σ5 σ4 ∧ MuOk Z ρ4 H4 μ4 ∧ Pst Z ρ4 H4 (QF Z D) (EF W cls) (forF ws f (ds.drop (i + 1)) σ5 μ4)
    refine ⟨g1, N, fun σ4 H4 h4 => ⟨_, by omega, rfl, hi, h4⟩, fun x H3 hy => ?_⟩
    obtain ⟨ρ3, x3, m3, r3⟩ := g2 x H3 hy
    have p3 := p2.at_ x3
    have hft : ∀ x σ μ, f x σ μ = match bindT μ t x σ with | none => Mi.R.no | some σ => rns Φ rb σ μ := fun x σ μ => by rw [← hf]; rfl
    rw [hft] at p3
    cases hbt : bindT μ2 t d σ3 with
    | none => rw [hbt] at p3; exact p3.elim
    | some σ6 =>
      rw [hbt] at p3
      refine ⟨ρ3, σ3, μ2, d, σ6, so2.ext x3, m3, r3, hbt, fun σ7 so7 _ => ⟨ρ3, σ6, μ2, so7, m3, p3.bnd.mono (fun fl ρ4 H4 μ4 x4 m4 q => ?_) fun _ _ _ _ _ _ h => h⟩⟩
      have x14 := (x2.trans x3).trans x4
      cases fl with
      | nx σ8 => exact fun σ9 so9 => ⟨ρ4, σ8, μ4, x14, so9, m4, q⟩
      | ct σ8 => exact fun σ9 so9 => ⟨ρ4, σ8, μ4, x14, so9, m4, q⟩
      | brk σ8 => exact fun σ9 so9 => q.ok m4 σ9 so9
      | ret d => exact q.ok m4
  · left
    have hi' : i = ds.length := by omega
    subst hi'
    rw [List.drop_length] at p2
    unfold forF at p2
    split at p2
    · rename_i hw
      obtain ⟨-, hstop⟩ := hJ [] ds.length ρ2 H2 μ2 hL x2 m2 hw
      exact ⟨hstop rfl, p2.ok m2 σ2 so2⟩
    · exact p2.elim
theorem s_whl {body : List Stmt} {rb : Ss} (hp : PassesOwn (model X.prog X.w) X.A X.env X.xe) (hc : PT X c (tT Z W cls (evT Φ ec))) (hb : PSs X body (tSt Z W cls (rns Φ rb))) : PS X (.While c body [] pos) (tSt Z W cls (rn Φ (.whl ec rb))) := by
  refine ⟨fun pins s σ H D I h => (ps_while hp hc hb).run pins s σ H D I ?_⟩
  obtain ⟨ρ, σ', μ, so, m, p⟩ := h
  unfold rn at p
  refine ⟨fun n σ2 H2 => ∃ ρ2 σ3 μ2, SlOk Z ρ2 H2 σ3 σ2 ∧ MuOk Z ρ2 H2 μ2 ∧ Pst Z ρ2 H2 (QF Z D) (EF W cls) (whlF (evT Φ ec) (rns Φ rb) n σ3 μ2), ⟨FUEL, ρ, σ', μ, so, m, p⟩, ?_⟩
  rintro n σ2 H2 ⟨ρ2, σ3, μ2, so2, m2, p2⟩
  cases n with
  | zero => exact p2.elim
  | succ n =>
    unfold whlF at p2
    refine sT_bnd so2 m2 p2 fun k ρ3 H3 μ3 e3 so3 m3 p3 => ?_
    cases k with
    | false => exact p3.ok m3 σ2 so3
    | true =>
      refine ⟨fun σ4 H4 => ∃ ρ4 σ5 μ4, SlOk Z ρ4 H4 σ5 σ4 ∧ MuOk Z ρ4 H4 μ4 ∧ Pst Z ρ4 H4 (QF Z D) (EF W cls) (whlF (evT Φ ec) (rns Φ rb) n σ5 μ4), fun σ4 H4 h4 => ⟨n, Nat.lt_succ_self n, h4⟩, ρ3, σ3, μ3, so3, m3, p3.bnd.mono (fun fl ρ4 H4 μ4 x4 m4 q => ?_) fun _ _ _ _ _ _ h => h⟩
      cases fl with
      | nx σ8 => exact fun σ9 so9 => ⟨ρ4, σ8, μ4, so9, m4, q⟩
      | ct σ8 => exact fun σ9 so9 => ⟨ρ4, σ8, μ4, so9, m4, q⟩
      | brk σ8 => exact fun σ9 so9 => q.ok m4 σ9 so9
      | ret d => exact q.ok m4
/-! ### raise -/
theorem s_rai (S : Su C X Z0 Z Φ cls W) {j : Nat} (he : PMk X e (fun _ H Q => Q (cls j) none H)) : PS X (.Raise (some e) none pos) (tSt Z W cls (rn Φ (.rai j))) := by
  refine ⟨fun pins s σ H D I h => (ps_raise S.calm S.tk he).run pins s σ H D I ?_⟩
  obtain ⟨ρ, σ', μ, so, m, p⟩ := h
  unfold rn at p
  exact p ρ H (.refl _ _) m σ
end
end Mi
set_option Elab.async false
set_option linter.all false
set_option maxRecDepth 100000
set_option maxHeartbeats 4000000
/-! Mu: changes of cells. -/
namespace Mi
open PySem PySem.Spec PyProof.Rows L2
section
variable {C : Cfg} {X : Cx} {Z0 Z : Zx} {Φ : Env} {cls : Nat → Value} {W : WX} {α β : Type}
variable {ρ : List Addr} {H : Hp} {μ : Mu} {σ' : Sl} {σ : L2.St} {Q : VK} {D : Ends}
variable {a b c ast tg o i e lo hi : Expr} {ea eb ec eo ei ee el eh : E} {pos : Pos} {as : List Expr} {es : Es} {st : Stmt} {sts : List Stmt}
/-- the cell i of the addresses, written as a list -/
theorem cell_lst (m : MuOk Z ρ H μ) {j : Nat} {p : Addr} {ds : List Mi.D} (h1 : ρ[j]? = some p) (h2 : μ[j]? = some (.lst ds)) : ∃ xs, H p = some (.lst xs) ∧ Reps Z ρ H ds xs := m.cell j p _ h1 h2
theorem write_lst (m : MuOk Z ρ H μ) {j : Nat} {p : Addr} {ds : List Mi.D} {xs : List V} (h1 : ρ[j]? = some p) (r : Reps Z ρ H ds xs) : Ext ρ H ρ (upd H p (.lst xs)) ∧ MuOk Z ρ (upd H p (.lst xs)) (μ.set j (.lst ds)) := by
  have x : Ext ρ H ρ (upd H p (.lst xs)) := Ext.write (List.mem_of_getElem? h1)
  exact ⟨x, m.write h1 ⟨xs, upd_same, r.ext x⟩⟩
theorem write_dic (m : MuOk Z ρ H μ) {j : Nat} {p : Addr} {kvs : List (L2.Key × V)} {vs : List Mi.D} (h1 : ρ[j]? = some p) (r : Reps Z ρ H vs (kvs.map (·.2))) : Ext ρ H ρ (upd H p (.dK kvs)) ∧ MuOk Z ρ (upd H p (.dK kvs)) (μ.set j (.dic (kvs.map fun p => keyD p.1) vs)) := by
  have x : Ext ρ H ρ (upd H p (.dK kvs)) := Ext.write (List.mem_of_getElem? h1)
  exact ⟨x, m.write h1 ⟨kvs, upd_same, rfl, r.ext x⟩⟩
/-! ### op= -/
/-- what a changed state promises -/
def PVa (Z : Zx) (ρ : List Addr) (H : Hp) (Q : Mi.D → List Addr → Hp → Mu → Prop) : Option (Mi.D × Mu) → Prop
  | some (z, μ') => ∀ ρ' H', Ext ρ H ρ' H' → MuOk Z ρ' H' μ' → Q z ρ' H' μ'
  | none => False
def rAug (Z : Zx) (o : BO) : TIp := fun x y H Q => ∃ ρ μ dx dy, MuOk Z ρ H μ ∧ Rep Z ρ H dx x ∧ Rep Z ρ H dy y ∧ PVa Z ρ H (QD Z Q) (augM o μ dx dy)
theorem ip_M (hK : Z.K = X.K) (o : BO) (ho : o = .add ∨ o = .sub) : PIp X (boPy o) (rAug Z o) := by
  intro pins s σ H x y v u Q I rx ry h
  obtain ⟨ρ, μ, dx, dy, m, r1, r2, p⟩ := h
  rcases ho with rfl | rfl
  · simp only [augM] at p
    cases dx with
    | ref j =>
      simp only at p
      split at p <;> try (exact p.elim)
      rename_i xs ys e1 e2
      split at p <;> try (exact p.elim)
      rename_i hz
      cases r1
      rename_i q hq
      obtain ⟨vs, hv, rv⟩ := cell_lst m hq e1
      obtain ⟨q2, ws, rfl, hw, rw'⟩ := lstOf_rep m r2 e2
      refine iop_ext pins s σ H _ _ _ _ Q I rx ry ⟨q, q2, vs, ws, rfl, rfl, hv, hw, by rw [← rv.length, ← rw'.length]; exact line_le hz, ?_⟩
      obtain ⟨x1, m1⟩ := write_lst m hq (rv.append rw')
      exact p ρ _ x1 m1 _ (.ref hq)
    | int i =>
      simp only at p
      split at p <;> try (exact p.elim)
      cases r1
      cases r2
      exact iop_add pins s σ H _ _ _ _ Q I rx ry ⟨_, _, rfl, rfl, p ρ H (.refl _ _) m _ (.int _)⟩
    | str t =>
      simp only at p
      split at p <;> try (exact p.elim)
      split at p <;> try (exact p.elim)
      rename_i b hz
      cases r1
      cases r2
      obtain ⟨t1, rfl⟩ := rx
      obtain ⟨t2, rfl⟩ := ry
      refine PyProof.Rows.iadd_str (fun t' tk => ⟨.str (mkS (t ++ b)), H, I.tok tk, ⟨t', by rw [mkS_app]⟩, p ρ H (.refl _ _) m _ (.str _)⟩) ?_
      rw [mkS_len, mkS_len]; exact line_le hz
    | _ => exact p.elim
  · simp only [augM] at p
    split at p <;> try (exact p.elim)
    cases r1
    cases r2
    exact iop_sub pins s σ H _ _ _ _ Q I rx ry ⟨_, _, rfl, rfl, p ρ H (.refl _ _) m _ (.int _)⟩
theorem s_aug (S : Su C X Z0 Z Φ cls W) {j : Nat} {x : Str} {op : BO} {pos' : Pos} (hop : op = .add ∨ op = .sub) (hi : X.N[j]? = some x) (hx : Loc X.env.scope x) (he : PE X e (tE Z W cls (ev Φ ee))) (hf : X.fn x = true ∨ X.env.scope.names.lookup x = some .local) : PS X (.AugAssign (.Name x pos') (boPy op) e pos) (tSt Z W cls (rn Φ (.aug j op ee))) := by
  refine ⟨fun pins s σ H D I h => (ps_aug S.nd hi hx he (ip_M S.hK op hop) hf).run pins s σ H D I ?_⟩
  obtain ⟨ρ, σ', μ, so, m, p⟩ := h
  unfold rn at p
  split at p <;> try (exact p.elim)
  rename_i x0 hσ
  obtain ⟨v0, hv0, rv0⟩ := so.at_ j x0 hσ
  refine ⟨v0, hv0, sE_bnd so m p fun y ρ1 H1 μ1 v e1 so1 m1 r1 p1 => ⟨ρ1, μ1, x0, y, m1, rv0.ext e1, r1, ?_⟩⟩
  cases ha : augM op μ1 x0 y with
  | none => rw [ha] at p1; exact p1.elim
  | some q =>
    obtain ⟨z, μ2⟩ := q
    rw [ha] at p1
    intro ρ2 H2 x2 m2 w rw'
    exact p1 ρ2 H2 x2 m2 _ ((so1.ext x2).set rw')
/-! ### o[i] = v -/
def rSet (Z : Zx) : TSet := fun o i v H Q => ∃ ρ μ x y w, MuOk Z ρ H μ ∧ Rep Z ρ H x o ∧ Rep Z ρ H y i ∧ Rep Z ρ H w v ∧ ∃ μ', setM μ x y w = some μ' ∧ ∀ ρ' H', Ext ρ H ρ' H' → MuOk Z ρ' H' μ' → Q H'
theorem set_M (hu : X.A.units + 1 < cLine) : PSet X (rSet Z) := by
  intro pins s σ H o i v ov iv u Q I ro ri rv h
  obtain ⟨ρ, μ, x, y, w, m, r1, r2, r3, μ', hs, q⟩ := h
  unfold setM at hs
  split at hs <;> try (cases hs; done)
  rename_i c
  cases r1
  rename_i p hp
  split at hs <;> try (cases hs; done)
  · rename_i xs e1
    split at hs <;> try (cases hs; done)
    rename_i k
    cases hj : ixD xs.length k with
    | none => rw [hj] at hs; cases hs
    | some j =>
      rw [hj] at hs
      cases hs
      cases r2
      obtain ⟨vs, hv, rvs⟩ := cell_lst m hp e1
      obtain ⟨x1, m1⟩ := write_lst m hp (rvs.set r3 j)
      refine set_list pins s σ H _ _ v ov iv u Q I ro ri rv ⟨p, vs, k, j, rfl, rfl, hv, ?_, q ρ _ x1 m1⟩
      rw [← rvs.length]; exact hj
  · rename_i ks vs e1
    split at hs <;> try (cases hs; done)
    rename_i hk
    simp only [Bool.and_eq_true, decide_eq_true_eq] at hk
    cases hs
    obtain ⟨kvs, q1, q2, q3⟩ := m.cell c p _ hp e1
    subst q2
    obtain ⟨kk, rfl, hkk⟩ := keyD_of y hk.1
    have ek := hkk r2
    subst ek
    obtain ⟨x1, m1⟩ := write_dic m hp (putV_reps kk r3 q3)
    rw [← putKs_eq] at m1
    refine set_dict hu pins s σ H _ _ v ov iv u Q I ro ri rv ⟨p, _, rfl, .inl ⟨kvs, kk, q1, rfl, ?_, rfl⟩, q ρ _ x1 m1⟩
    have := hk.2
    rw [List.length_map] at this
    rw [line_eq]; exact this
theorem s_put (S : Su C X Z0 Z Φ cls W) {p2 : Pos} (he : PE X e (tE Z W cls (ev Φ ee))) (ho : PE X o (tE Z W cls (ev Φ eo))) (hi : PE X i (tE Z W cls (ev Φ ei))) (hs : swapsWithSole [.Subscript o i p2] e pos.line X.env = pure false) (hsl : nslc i = true) :
    PS X (.Assign [.Subscript o i p2] e pos) (tSt Z W cls (rn Φ (.put eo ei ee))) := by
  have hw : swappedStores [.Subscript o i p2] e X.env = pure none := by rfl
  have ha : ∀ v, assign (.Subscript o i p2) X.env v = (do
      let ov ← holding [v] (eval o X.env)
      let iv ← holding [v, ov] (eval i X.env)
      standAt p2
      holding [v, ov, iv] (setItem ov iv v)
      release [v, ov, iv] []) := by
    intro v
    cases i <;> first | rfl | cases hsl
  refine ⟨fun pins s σ H D I h => (ps_asg he (pg_sub ho hi (set_M (Z := Z) (by have := S.hu; omega)) ha) hs hw).run pins s σ H D I ?_⟩
  obtain ⟨ρ, σ', μ, so, m, p⟩ := h
  unfold rn at p
  refine sE_bnd so m p fun w ρ1 H1 μ1 v e1 so1 m1 r1 p1 => sE_bnd so1 m1 p1 fun x ρ2 H2 μ2 u e2 so2 m2 r2 p2 => sE_bnd so2 m2 p2 fun y ρ3 H3 μ3 t e3 so3 m3 r3 p3 => ?_
  cases hs : setM μ3 x y w with
  | none => rw [hs] at p3; exact p3.elim
  | some μ4 =>
    rw [hs] at p3
    exact ⟨ρ3, μ3, x, y, w, m3, r2.ext e3, r3, (r1.ext e2).ext e3, μ4, hs, fun ρ4 H4 x4 m4 => p3 ρ4 H4 x4 m4 σ (so3.ext x4)⟩
/-! ### o[lo:hi] = v -/
theorem g_cut {p2 p3 : Pos} {to : TE} {tl th : TE} (ho : PE X o to) (hl : PE X lo tl) (hh : PE X hi th) : PG X (.Subscript o (.Slice (some lo) (some hi) none p3) p2) (fun v σ H Q => to σ H fun x H1 => tl σ H1 fun l H2 => th σ H2 fun h H3 =>
    ∃ p b xs ys a c, x = .ref p ∧ l = .int a ∧ h = .int c ∧ v = .ref b ∧ H3 p = some (.lst xs) ∧ H3 b = some (.lst ys) ∧ p ≠ b ∧ 0 ≤ a ∧ a ≤ c ∧ c ≤ xs.length ∧ xs.length + ys.length ≤ sizeLine ∧ Q σ (upd H3 p (.lst (xs.take a.toNat ++ ys ++ xs.drop c.toNat)))) := by
  refine ⟨fun pins s σ H v u Q I r h => ?_⟩
  show wpAny _ _ (do
    let ov ← holding [u] (eval o X.env)
    let iv ← holding [u, ov] (eval (.Slice (some lo) (some hi) none p3) X.env)
    standAt p2
    holding [u, ov, iv] (setItem ov iv u)
    release [iv, u, ov] []) _ _ s
  refine wpAny_bind (wpAny_holding (thn (ho.run pins s σ H _ I h) fun ov s1 ⟨x, H1, I1, r1, q1⟩ => ?_))
  refine wpAny_bind (wpAny_holding (wpAny_Slice ?_))
  rw [evalPart_some]
  refine thn (hl.run pins s1 σ H1 _ I1 q1) fun vl s2 ⟨l, H2, I2, r2, q2⟩ => ?_
  rw [evalPart_some]
  refine thn (hh.run pins s2 σ H2 _ I2 q2) fun vh s3 ⟨hv, H3, I3, r3, q3⟩ => ?_
  rw [evalPart_none]
  refine wpAny_pure ?_
  obtain ⟨p, b, xs, ys, a, c, rfl, rfl, rfl, rfl, hp, hb, hne, h0, hac, hc, hz, q⟩ := q3
  have I4 : Inv X pins σ H3 { s3 with heap := s3.heap.push { cls := .type "slice", data := .fields #[vl, vh, .none] } } := I3.kept (t' := s3.toks) fun b ob q => Heap.get?_push_of_some _ q
  cases r1
  cases r
  refine wpAny_bind (wpAny_standAt (wpAny_bind (wpAny_holding (set_slice I4 hp hb hne (Heap.IsSliceOf.new _ vl vh .none) r2 r3 h0 hac hc hz fun s5 I5 => ?_))))
  exact wpAny_release ⟨σ, _, I5, q⟩
theorem s_cut (S : Su C X Z0 Z Φ cls W) {p2 p3 : Pos} (he : PE X e (tE Z W cls (ev Φ ee))) (ho : PE X o (tE Z W cls (ev Φ eo))) (hl : PE X lo (tE Z W cls (ev Φ el))) (hh : PE X hi (tE Z W cls (ev Φ eh))) (hs : swapsWithSole [.Subscript o (.Slice (some lo) (some hi) none p3) p2] e pos.line X.env = pure false) :
    PS X (.Assign [.Subscript o (.Slice (some lo) (some hi) none p3) p2] e pos) (tSt Z W cls (rn Φ (.cut eo el eh ee))) := by
  have hw : swappedStores [.Subscript o (.Slice (some lo) (some hi) none p3) p2] e X.env = pure none := by rfl
  refine ⟨fun pins s σ H D I h => (ps_asg he (g_cut ho hl hh) hs hw).run pins s σ H D I ?_⟩
  obtain ⟨ρ, σ', μ, so, m, p⟩ := h
  unfold rn at p
  refine sE_bnd so m p fun w ρ1 H1 μ1 v e1 so1 m1 r1 p1 => sE_bnd so1 m1 p1 fun x ρ2 H2 μ2 u e2 so2 m2 r2 p2 => sE_bnd so2 m2 p2 fun l ρ3 H3 μ3 t e3 so3 m3 r3 p3 => sE_bnd so3 m3 p3 fun h ρ4 H4 μ4 t2 e4 so4 m4 r4 p4 => ?_
  split at p4 <;> try (exact p4.elim)
  rename_i l h
  have rw1 := ((r1.ext e2).ext e3).ext e4
  have rx1 := (r2.ext e3).ext e4
  cases hc : cutM μ4 x l h w with
  | none => rw [hc] at p4; exact p4.elim
  | some μ5 =>
    rw [hc] at p4
    unfold cutM at hc
    split at hc
    · cases hc
    · rename_i hne
      split at hc <;> try (cases hc; done)
      rename_i ys hy
      split at hc <;> try (cases hc; done)
      rename_i j
      split at hc <;> try (cases hc; done)
      rename_i xs hx
      split at hc
      · rename_i hz
        simp only [Bool.and_eq_true, decide_eq_true_eq] at hz
        cases hc
        cases rx1
        rename_i q hq
        cases r3
        cases r4
        obtain ⟨vs, hv, rv⟩ := cell_lst m4 hq hx
        obtain ⟨q2, us, rfl, hu, ru⟩ := lstOf_rep m4 rw1 hy
        obtain ⟨x1, m5⟩ := write_lst m4 hq (((rv.take l.toNat).append ru).append (rv.drop h.toNat))
        refine ⟨q, q2, vs, us, l, h, rfl, rfl, rfl, rfl, hv, hu, fun e => ?_, hz.1.1.1, hz.1.1.2, by rw [← rv.length]; exact hz.1.2, by rw [← rv.length, ← ru.length]; exact line_le hz.2, p4 ρ4 _ x1 m5 σ (so4.ext x1)⟩
        subst e
        cases rw1 with
        | lst h1 h2 h3 => exact h2.1 (List.mem_of_getElem? hq)
        | ref h1 =>
          rename_i k
          obtain ⟨l1, e1⟩ := List.getElem?_eq_some_iff.mp hq
          obtain ⟨l2, e2⟩ := List.getElem?_eq_some_iff.mp h1
          have : j = k := (List.getElem_inj m4.nd).mp (e1.trans e2.symm)
          exact hne (by simp [sameCell, this])
        | tup h1 => cases hy
        | scr h1 => cases hy
        | dic h1 => cases hy
        | clo h1 => cases hy
      · cases hc
/-! ### o.append(e) -/
theorem s_app (S : Su C X Z0 Z Φ cls W) {apos cpos : Pos} (ho : PE X o (tE Z W cls (ev Φ eo))) (he : PE X e (tE Z W cls (ev Φ ee))) (hst : nst e = true) (hsup : nsup o = true) (hline : (apos.endLine == cpos.line) = true) :
    PS X (.Expr (.Call (.Attribute o "append" apos) [e] [] cpos) pos) (tSt Z W cls (rn Φ (.app eo ee))) := by
  refine ⟨fun pins s σ H D I h => ?_⟩
  obtain ⟨ρ, σ', μ, so, m, p⟩ := h
  unfold rn at p
  have hpe : PE X (.Call (.Attribute o "append" apos) [e] [] cpos) (fun σ H Q => tE Z W cls (ev Φ eo) σ H fun x H1 => tyV X.K "list" x H1 ∧ tE Z W cls (ev Φ ee) σ H1 fun y H2 => rAppend x [y] H2 Q) := by
    refine ⟨fun pins s σ H Q I h => ?_⟩
    refine wpAny_Call_method_late (base_of hsup) (few_of (by simp [hst]) (by simp)) hline rfl (thn (ho.run pins s σ H _ I h) fun v s1 ⟨x, H1, I1, r1, ty, q1⟩ => ?_)
    obtain ⟨h1, h2⟩ := tyV_is I1 r1 ty
    refine ⟨"list", "list.append", PySem.F.plainAttrs_list, PySem.F.slot_list_append, PySem.F.type_list_append, h1, h2, ?_⟩
    have hA := (pa_cons he pa_nil (star_of hst)).run cpos pins s1 σ H1 (fun ys H2 => ∃ y, ys = [y] ∧ rAppend x [y] H2 Q) I1 (show tE Z W cls (ev Φ ee) σ H1 _ from q1.imp fun _ => fun ⟨σ', μ, so, m, p⟩ => ⟨σ', μ, so, m, p.mono (fun _ _ _ _ _ _ h v r => ⟨v, rfl, h v r⟩) fun _ _ _ _ _ _ h => h⟩)
    rw [star_of (es := []) (env := X.env) hst] at hA ⊢
    refine Calls.callWith_builtin (by rfl) (Calls.evalArgs_plain ?_)
    refine thn hA fun us s2 ⟨vs, H2, I2, r2, y, ey, q2⟩ => ?_
    subst ey
    exact mt_append pins s2 σ H2 x [y] v us Q I2 r1 r2 q2
  refine (ps_expr hpe (by rfl)).run pins s σ H D I ?_
  refine sE_bnd so m p fun x ρ1 H1 μ1 v e1 so1 m1 r1 p1 => ?_
  split at p1
  · exact p1.elim
  · rename_i hcell
    have hc2 : ∃ j ds, x = .ref j ∧ μ1[j]? = some (.lst ds) := by
      cases x with
      | ref j =>
        unfold isCell at hcell
        simp only at hcell
        split at hcell
        · exact ⟨j, _, rfl, by assumption⟩
        · exact absurd rfl hcell
      | _ => exact absurd rfl hcell
    obtain ⟨j, ds, rfl, hj⟩ := hc2
    have r1' := r1
    cases r1' with
    | ref hq =>
      rename_i q
      obtain ⟨vs, hv, rv⟩ := cell_lst m1 hq hj
      refine ⟨.inl ⟨rfl, vs, .of hv⟩, sE_bnd so1 m1 p1 fun y ρ2 H2 μ2 u e2 so2 m2 r2 p2 => ?_⟩
      unfold atCell at p2
      simp only at p2
      cases hj2 : μ2[j]? with
      | none => rw [hj2] at p2; exact p2.elim
      | some c =>
        rw [hj2] at p2
        cases c with
        | lst xs =>
          simp only at p2
          split at p2
          · rename_i μ3 hμ
            split at hμ
            · rename_i hz
              cases hμ
              have hq2 : ρ2[j]? = some q := by
                obtain ⟨t, e⟩ := e2.pre
                subst e
                rw [List.getElem?_append_left (List.getElem?_eq_some_iff.mp hq).1]
                exact hq
              obtain ⟨vs2, hv2, rv2⟩ := cell_lst m2 hq2 hj2
              obtain ⟨x1, m3⟩ := write_lst m2 hq2 (rv2.append (.cons r2 .nil))
              exact ⟨q, vs2, u, rfl, rfl, hv2, by rw [← rv2.length, line_eq]; exact hz, p2 ρ2 _ x1 m3 σ (so2.ext x1)⟩
            · cases hμ
          · exact p2.elim
        | _ => exact p2.elim
end
end Mi
set_option Elab.async false
set_option linter.all false
set_option maxRecDepth 100000
set_option maxHeartbeats 4000000
/-! Mv: defs. -/
namespace Mi
open PySem PySem.Spec PyProof.Rows L2
section
variable {Z : Zx} {ρ ρ' : List Addr} {H H' : Hp} {μ μ' : Mu} {d : D} {v : V}
theorem Out.low (hp : ρ <+: ρ') {a : Addr} (h : Out Z ρ' a) : Out Z ρ a := ⟨fun z => h.1 (hp.subset z), h.2⟩
mutual
/-- what has no late cell stands without them -/
theorem Rep.low (hp : ρ <+: ρ') : ∀ {d : D} {v : V}, Rep Z ρ' H d v → Mi.low ρ.length d = true → Rep Z ρ H d v
  | _, _, .non, _ => .non
  | _, _, .bl b, _ => .bl b
  | _, _, .int i, _ => .int i
  | _, _, .str s, _ => .str s
  | _, _, .tup h n r, q => .tup (h.imp (fun z => ⟨z.1, z.2.low hp⟩) id) (fun k => (n k).imp (fun ⟨o, u, e, z, m⟩ => ⟨o, u, e, z, m.low hp⟩) id) (Reps.low hp r (by unfold Mi.low at q; exact q))
  | _, _, .lst h n r, q => .lst h (n.low hp) (Reps.low hp r (by unfold Mi.low at q; exact q))
  | _, _, .scr h, _ => .scr (h.imp (fun z => ⟨z.1, z.2.low hp⟩) id)
  | _, _, .dic h n r, q => .dic h (n.low hp) (Reps.low hp r (by unfold Mi.low at q; simp only [Bool.and_eq_true] at q; exact q.2))
  | _, _, .clo h1 h2 n1 n2 t1 t2, _ => .clo h1 h2 (n1.low hp) (n2.low hp) t1 t2
  | _, _, .ref h, q => .ref (by
      unfold Mi.low at q
      obtain ⟨t, e⟩ := hp
      subst e
      rw [List.getElem?_append_left (by simpa using q)] at h
      exact h)
theorem Reps.low (hp : ρ <+: ρ') : ∀ {ds : List D} {vs : List V}, Reps Z ρ' H ds vs → Mi.lows ρ.length ds = true → Reps Z ρ H ds vs
  | _, _, .nil, _ => .nil
  | _, _, .cons a r, q => .cons (Rep.low hp a (by unfold lows at q; simp only [Bool.and_eq_true] at q; exact q.1)) (Reps.low hp r (by unfold lows at q; simp only [Bool.and_eq_true] at q; exact q.2))
end
theorem lows_get {n : Nat} : ∀ {ds : List D} {i : Nat} {d : D}, lows n ds = true → ds[i]? = some d → low n d = true
  | [], i, d, _, e => by simp at e
  | x :: xs, 0, d, h, e => by
    unfold lows at h
    simp only [Bool.and_eq_true] at h
    simp at e
    rw [← e]; exact h.1
  | x :: xs, i + 1, d, h, e => by
    unfold lows at h
    simp only [Bool.and_eq_true] at h
    exact lows_get h.2 (by simpa using e)
/-- the late cells forgotten -/
theorem MuOk.low (m : MuOk Z ρ' H' μ') (x : Ext ρ H ρ' H') (hl : lows ρ.length (μ'.take ρ.length) = true) : Ext ρ H ρ H' ∧ MuOk Z ρ H' (μ'.take ρ.length) := by
  have hlen : ρ.length ≤ ρ'.length := x.pre.length_le
  refine ⟨⟨List.prefix_refl _, fun a h n => absurd h n, x.keep, x.live⟩, ?_, ?_, fun a ha => m.live a (x.mem ha), fun i a d h1 h2 => ?_, m.tb, fun P hP z => m.tbn P hP (x.mem z), m.exl, fun a ha z => m.exn a ha (x.mem z), fun p hp => ?_, fun P hP q hq ps h pos cv hc => let ⟨c, e1, e2, n⟩ := m.tq P hP q hq ps h pos cv hc; ⟨c, e1, e2, n.low x.pre⟩⟩
  · obtain ⟨t, e⟩ := x.pre
    have := m.nd
    rw [← e] at this
    exact (List.nodup_append.mp this).1
  · rw [List.length_take, ← m.len]; omega
  · have hi : i < ρ.length := (List.getElem?_eq_some_iff.mp h1).1
    have h1' : ρ'[i]? = some a := by
      obtain ⟨t, e⟩ := x.pre
      rw [← e, List.getElem?_append_left hi]; exact h1
    have hd := lows_get hl h2
    rw [List.getElem?_take_of_lt hi] at h2
    have c := m.cell i a d h1' h2
    cases d with
    | lst ds => obtain ⟨xs, c1, c2⟩ := c; exact ⟨xs, c1, c2.low x.pre (by unfold Mi.low at hd; exact hd)⟩
    | dic ks vs => obtain ⟨kvs, c1, c2, c3⟩ := c; exact ⟨kvs, c1, c2, c3.low x.pre (by unfold Mi.low at hd; simp only [Bool.and_eq_true] at hd; exact hd.2)⟩
    | _ => trivial
  · obtain ⟨e, n, t⟩ := m.gl p hp
    exact ⟨e, n.low x.pre, t⟩
theorem done_pst {Q : VK} {Ef : Nat → List Addr → Hp → Mu → Prop} (hn : ρ.length = μ.length) (p : Pst Z ρ H (QD Z Q) Ef (done μ.length d μ')) (x : Ext ρ H ρ' H') (m : MuOk Z ρ' H' μ') (r : Rep Z ρ' H' d v) : Q v H' := by
  rw [← hn] at p
  unfold done at p
  split at p
  · rename_i hl
    obtain ⟨x1, m1⟩ := m.low x hl
    cases d with
    | ref i =>
      simp only at p
      split at p
      · rename_i hi
        exact p ρ H' x1 m1 v (r.low x.pre (by unfold Mi.low; simpa using hi))
      · rename_i hi
        have hmem : ∀ {a : Addr}, ρ'[i]? = some a → Out Z ρ a := fun {a} ha => by
          refine ⟨fun z => ?_, fun z => m.exn a z (List.mem_of_getElem? ha)⟩
          obtain ⟨j, hj⟩ := List.getElem?_of_mem z
          have hjl : j < ρ.length := (List.getElem?_eq_some_iff.mp hj).1
          have hj' : ρ'[j]? = some a := by
            obtain ⟨t, e⟩ := x.pre
            rw [← e, List.getElem?_append_left hjl]; exact hj
          obtain ⟨l1, e1⟩ := List.getElem?_eq_some_iff.mp ha
          obtain ⟨l2, e2⟩ := List.getElem?_eq_some_iff.mp hj'
          have : i = j := (List.getElem_inj m.nd).mp (e1.trans e2.symm)
          omega
        cases r
        rename_i a ha
        split at p
        · rename_i xs hx
          split at p
          · rename_i hlx
            obtain ⟨vs, c1, c2⟩ := m.cell i a _ ha hx
            exact p ρ H' x1 m1 _ (.lst c1 (hmem ha) (c2.low x.pre hlx))
          · exact p.elim
        · rename_i ks vs hx
          split at p
          · rename_i hlx
            simp only [Bool.and_eq_true] at hlx
            obtain ⟨kvs, c1, c2, c3⟩ := m.cell i a _ ha hx
            subst c2
            exact p ρ H' x1 m1 _ (.dic (.inl c1) (hmem ha) (c3.low x.pre hlx.2))
          · exact p.elim
        · exact p.elim
    | _ =>
      simp only at p
      split at p
      · rename_i hlo
        exact p ρ H' x1 m1 v (r.low x.pre hlo)
      · exact p.elim
  · exact p.elim
theorem fun_pst {Φ : Env} {N : Nat} {keep : Bool} {b : Ss} {ds : List D} {Q : VK} {E : XK} {cls : Nat → Value} (m : MuOk Z ρ H μ) (p : Pst Z ρ H (QD Z Q) (fun c _ H' _ => E (cls c) none H') (fun_ Φ N keep b ds μ)) :
    Pst Z ρ H (QF Z { nx := fun _ H' => Q .non H', rt := Q }) (EF (fun c d _ H => E c d H) cls) (rns Φ b (ds.map some ++ List.replicate (N - ds.length) none) μ) := by
  unfold fun_ at p
  generalize rns Φ b (ds.map some ++ List.replicate (N - ds.length) none) μ = r at p ⊢
  cases r with
  | no => exact p
  | exc c μ' =>
    intro ρ' H' x m' σ
    simp only at p
    split at p
    · exact p ρ' H' x m'
    · split at p
      · rename_i hl
        rw [← m.len] at hl p
        obtain ⟨x1, m1⟩ := m'.low x hl
        exact p ρ H' x1 m1
      · exact p.elim
  | ok fl μ' =>
    intro ρ' H' x m'
    cases fl with
    | nx σ' =>
      simp only at p
      intro σ _
      split at p
      · exact p ρ' H' x m' _ .non
      · exact done_pst m.len p x m' .non
    | ret d =>
      simp only at p
      intro v r
      split at p
      · exact p ρ' H' x m' v r
      · exact done_pst m.len p x m' r
    | brk σ' => exact p.elim
    | ct σ' => exact p.elim
end
theorem start_ok {Z : Zx} {ρ : List Addr} {H : Hp} {ds : List D} {vs : List V} (N : List Str) (r : Reps Z ρ H ds vs) : SlOk Z ρ H (ds.map some ++ List.replicate (N.length - ds.length) none) (L2.start N vs) := by
  unfold L2.start
  refine ⟨by simp [r.length], fun i d h => ?_⟩
  by_cases hi : i < ds.length
  · rw [List.getElem?_append_left (by simpa using hi), List.getElem?_map] at h
    obtain ⟨d', hd, e⟩ := Option.map_eq_some_iff.mp h
    cases e
    obtain ⟨w, hw, rw'⟩ := r.get hd
    have hi' : i < vs.length := by rw [← r.length]; exact hi
    exact ⟨w, by rw [List.getElem?_append_left (by simpa using hi'), List.getElem?_map, hw]; rfl, rw'⟩
  · rw [List.getElem?_append_right (by simpa using hi)] at h
    rw [List.getElem?_replicate] at h
    split at h <;> cases h
/-- A DEF by its body -/
theorem fn_M {P : Program} {w : World} {K : PySem.W.Frag} {mg : Str → Option Value} {base : Heap} {k : Nat} {f : Addr} {name qual : Str} {params : Arguments} {body : List Stmt} {scope : Scope} {dV kV doc pm cdv ct oc : Value} {an od : Option Addr}
    {osl : Array (Option Value)} {N ps : List Str} {Z0 : Zx} {cls : Nat → Value} {Φ : Env} {keep : Bool} {b : Ss} (lk : K.lookup f = some ⟨oc, od, .func (PySem.W.fnOf name qual params body scope dV kV doc pm an cdv ct), osl⟩) (hcd : PySem.W.codeIn K cdv qual = true) (S : FnScope N ps scope)
    (hbody : ∀ (A : Around) (outer : List PySem.Env) (s : Shared) (H : Hp) (E : XK) (Z : Zx), Room k (A.deeper (envOfC qual scope s.heap.objs.size f cdv)) → ZP Z0 Z →
      PSs (cxOf (L2.CX P w) P w K mg base N qual scope f cdv A outer s H E) body (tSt Z (fun c d _ H => E c d H) cls (rns Φ b))) :
    FnOk P w K mg base (L2.CX P w) (k + 1) f (PySem.W.fnOf name qual params body scope dV kV doc pm an cdv ct) ps (spM Z0 cls ps.length (fun_ Φ N.length keep b)) := by
  refine fn_of (N := N) lk hcd S (fun vs H Q E ⟨Z, ρ, μ, ds, _, hn, _, r, _⟩ => by rw [← r.length]; exact hn) fun A outer s H vs Q E hr ⟨Z, ρ, μ, ds, zp, hn, m, r, p⟩ => ?_
  exact ⟨_, hbody A outer s H E Z hr zp, ρ, _, μ, start_ok N r, m, fun_pst m p⟩
end Mi
set_option Elab.async false
set_option linter.all false
set_option maxRecDepth 100000
set_option maxHeartbeats 4000000
/-! Na: generator expressions: the context of the body, its turns under Seg, whoever asks. -/
namespace Mi
open PySem PySem.Spec PyProof.Rows L2 GenW
/-- the context of a generator expression's body, from the state s on -/
abbrev gxC (X : Cx) (s : Shared) (H : Hp) (cenv : PySem.Env) (Ag : Around) (fp : List Addr) (pn : List (Addr × Obj)) : Cx :=
  { X with A := Ag, s_0 := s, H_0 := H, env := cenv, outer := X.stack, stack := cenv :: X.stack, ex := fp, fn := fun _ => false, pn := pn, xe := fun _ _ => False }
abbrev gxEnv (X : Cx) (scope : Scope) (C : Addr) (code : Value) : PySem.Env := genEnv scope (cloFrom X.env.cells scope.names []) C code builtinsNs X.env
section
variable {X : Cx} {pins : List (Addr × Obj)} {σ : L2.St} {H : Hp} {s s' : Shared}
theorem gx_start {scope : Scope} {own : List (Str × Nat)} {fp : List Addr} {pn : List (Addr × Obj)} {code it : Value} {Ag : Around} (I : Inv X pins σ H s) (ok : BlkOk X.N X.env.scope scope own) (nc : ∀ y ∈ scope.names, y.2 ≠ .cell) (hN : X.N.Nodup)
    (hfp : ∀ b ∈ fp, FpOk X pins H b ∧ b < s.heap.objs.size) (hh : Ag.handled = none) (hfr : Ag.frames = some (gxEnv X scope s.heap.objs.size code :: X.stack))
    (hpn : ∀ p ∈ pn, s'.heap.get? p.1 = some p.2 ∧ s.heap.objs.size < p.1 ∧ ∀ v, p.2.data ≠ .cell v)
    (hos : s'.os = s.os) (hb : AllBare s'.gens) (kp : ∀ b o, s.heap.get? b = some o → s'.heap.get? b = some o) (hns : s'.heap.Ns s.heap.objs.size (fun y => if y = ".0" then some it else none)) :
    Inv (gxC X s H (gxEnv X scope s.heap.objs.size code) Ag fp pn) [] (wipe σ (own.map (·.2))) H s' := by
  have hfree : ∀ y ∈ scope.names, y.2 = .free → ∃ c, X.env.cells.lookup y.1 = some c := fun y hy e => by
    rcases ok.free y hy e with k | k
    · exact I.ok.has _ (.inl k)
    · exact I.ok.has _ (.inr k)
  have mem : ∀ {y c}, (cloFrom X.env.cells scope.names []).lookup y = some c → X.env.cells.lookup y = some c ∧ c < s.heap.objs.size ∧ (y, NameKind.free) ∈ scope.names := fun {y c} e => by
    rcases cloFrom_mem (PySem.mem_of_lookup e) with hm | ⟨h1, rfl⟩
    · cases hm
    · obtain ⟨c, hc⟩ := hfree _ h1 rfl
      rw [hc]
      obtain ⟨w, z⟩ := I.cell _ _ hc
      exact ⟨rfl, z.lt, h1⟩
  have look : ∀ {y}, scope.names.lookup y = some .free → ∃ c, (cloFrom X.env.cells scope.names []).lookup y = some c ∧ X.env.cells.lookup y = some c := fun {y} hl => by
    have hy : (y, NameKind.free) ∈ scope.names := PySem.mem_of_lookup hl
    obtain ⟨c', e'⟩ := mem_lookup (cloFrom_has (cells := X.env.cells) (acc := []) hy)
    exact ⟨c', e', (mem e').1⟩
  have okB : (gxC X s H (gxEnv X scope s.heap.objs.size code) Ag fp pn).Ok := by
    refine ⟨I.ok.mod, ok.kind, I.ok.glob, rfl, Nat.le_refl _, fun y z c e1 e2 => I.ok.inj y z c (mem e1).1 (mem e2).1, fun y hy => ?_, fun y c z _ => (by cases z), fun _ => hh, hfr, .inr ⟨rfl, rfl⟩, fun b hb => ⟨Nat.ne_of_lt (hfp b hb).2, fun y c e z => ?_⟩,
      I.bs, Nat.le_trans I.ok.bsz I.sz, fun b o e hb => ?_, fun b hb z => ?_, I.stack, I.stkFree⟩
    · rcases hy with hy | hy
      · exact absurd rfl (nc _ (PySem.mem_of_lookup (show scope.names.lookup y = some .cell from hy)))
      · obtain ⟨c, h1, _⟩ := look hy
        exact ⟨c, h1⟩
    · exact (hfp b hb).1.2.2.2.2.1 y c (mem e).1 z
    · rcases (hfp b hb).1.2.2.2.1 with z | z
      · exact I.ok.noex b o e z
      · exact absurd (Nat.lt_of_lt_of_le (Heap.lt_size e) (Nat.le_trans I.ok.bsz z)) (Nat.lt_irrefl _)
    · rcases List.mem_cons.mp (I.stkSub b z) with z | z
      · exact (hfp b hb).1.2.1 z
      · exact (hfp b hb).1.2.2.1 z
  refine ⟨okB, hos, hb, Un.kept kp, ⟨_, hns, fun i y av e1 e2 e3 => ?_⟩, fun y c e => ?_, I.hok.fresh (Nat.le_refl _), fun y c e => I.freeC y c (mem e).1, fun p hp => ?_, I.hok.kept kp, by rw [wipe_length]; exact I.len⟩
  · obtain ⟨e2, hne⟩ := wipe_some e2
    have hfr : scope.names.lookup y = some .free := by
      have no : ∀ k, scope.names.lookup y = some k → ¬ (k = .local ∨ k = .cell) := fun k e hh => by
        rcases ok.own _ (PySem.mem_of_lookup e) hh with e' | e'
        · obtain ⟨p, hp, hpy⟩ := List.mem_map.mp e'
          have e3 := ok.ix p hp
          have : p.1 = y := hpy
          rw [this] at e3
          exact hne (List.mem_map.mpr ⟨p, hp, nodup_ix hN e3 e1⟩)
        · exact e' (List.mem_of_getElem? e1)
      have e3 : Vis scope y := e3
      rcases e3 with e3 | e3 | e3
      · exact absurd (.inl rfl) (no _ e3)
      · exact absurd (.inr rfl) (no _ e3)
      · exact e3
    obtain ⟨m, hn, hl⟩ := I.loc
    have hvis : Vis X.env.scope y := (ok.free _ (PySem.mem_of_lookup hfr) rfl).elim (fun k => .inr (.inl k)) (fun k => .inr (.inr k))
    obtain ⟨w, r, q⟩ := hl i y av e1 e2 hvis
    refine ⟨w, r, .inr ⟨.inr hfr, ?_⟩⟩
    obtain ⟨c, h1, h2⟩ := look hfr
    rcases q with ⟨k, _⟩ | ⟨_, c', e', z⟩
    · have k : X.env.scope.names.lookup y = some .local := k
      rcases ok.free _ (PySem.mem_of_lookup hfr) rfl with k' | k' <;> rw [show X.env.scope.names.lookup y = _ from k'] at k <;> cases k
    · rw [h2] at e'; cases e'
      exact ⟨c, h1, z.keeps kp⟩
  · obtain ⟨w, z⟩ := I.cell y c (mem e).1
    exact ⟨w, z.keeps kp⟩
  · rcases List.mem_append.mp hp with hp | hp
    · obtain ⟨h1, h2, h3⟩ := hpn p hp
      exact ⟨h1, I.hok.fresh (Nat.le_of_lt h2), Nat.ne_of_gt h2, fun z => by
        rcases List.mem_cons.mp (I.stkSub p.1 z) with z | z
        · have := I.lt
          rw [← z] at this
          exact Nat.lt_asymm this h2
        · exact I.nofs (Nat.le_of_lt h2) z, h3⟩
    · cases hp
/-- whoever asks: its own objects Ss, what they hold when ys is out -/
structure Csm (Ss : List Addr) (Cs : List V → Heap → Prop) : Prop where
  live : ∀ ys h, Cs ys h → ∀ b ∈ Ss, ∃ o, h.get? b = some o ∧ ∀ v, o.data ≠ .cell v
  stay : ∀ ys h h', Cs ys h → (∀ b ∈ Ss, ∀ o, h.get? b = some o → h'.get? b = some o) → Cs ys h'
/-- the generator sleeps -/
structure Slp (Ss : List Addr) (s s' : Shared) : Prop where
  os : s'.os = s.os
  bare : AllBare s'.gens
  keep : ∀ b o, b ∉ Ss → s.heap.get? b = some o → s'.heap.get? b = some o
/-- what is so when it has run: H is the heap -/
structure Bck (X : Cx) (s : Shared) (H0 : Hp) (fp Ss : List Addr) (pn : List (Addr × Obj)) (H : Hp) (s' : Shared) : Prop where
  os : s'.os = s.os
  bare : AllBare s'.gens
  un : Un (frs X.stack) fp H0 H s.heap s'.heap
  hok : HOk X.prog X.w H s'.heap
  own : ∀ b ∈ Ss, H b = none
  pn : ∀ p ∈ pn, s'.heap.get? p.1 = some p.2
  lim : s'.heap.NoLimit
def YM (X : Cx) (s : Shared) (H0 : Hp) (fp Ss : List Addr) (pn : List (Addr × Obj)) (Cs : List V → Heap → Prop) (W : Nat → Nat → List V → Hp → Prop) : Protocol := fun n s₀ v s1 kap =>
  ∃ i k ys y H, RelV y v ∧ k < n ∧ W i k (ys ++ [y]) H ∧ Bck X s H0 fp Ss pn H s1 ∧ Cs ys s1.heap ∧ ∀ s', Slp Ss s1 s' → Cs (ys ++ [y]) s'.heap → kap (.send .none) s'
def RM (X : Cx) (s : Shared) (H0 : Hp) (fp Ss : List Addr) (pn : List (Addr × Obj)) (Cs : List V → Heap → Prop) (Qe : List V → Hp → Prop) : Nat → Shared → Shared → Prop := fun _ _ s1 =>
  ∃ ys H, Qe ys H ∧ Bck X s H0 fp Ss pn H s1 ∧ Cs ys s1.heap
end
end Mi
set_option Elab.async false
set_option linter.all false
set_option maxRecDepth 100000
set_option maxHeartbeats 4000000
/-! Nb: the turns of a generator expression's body. -/
namespace Mi
open PySem PySem.Spec PyProof.Rows L2 GenW
section
variable {X : Cx} {s4 : Shared} {H4 : Hp} {fp Ss : List Addr} {pn : List (Addr × Obj)}
/-- what one turn is asked: W i k ys H: i items are through, at most k are to come, ys is out -/
def TurnG (Al : List V → Prop) (J : L2.It) (g : TG) (tt : TT) (te : TE) (own : List Nat) (σ : L2.St) (W : Nat → Nat → List V → Hp → Prop) (Qe : List V → Hp → Prop) : Prop :=
  ∀ i k ys H, Al ys → W i k ys H → (J.stop i H ∧ Qe ys H) ∨ (J.go i H ∧ ∀ x H3, J.yld i H x H3 → g x (wipe σ own) H3 fun σ' H4 => wipe σ' own = wipe σ own ∧ tt σ' H4 fun b H5 =>
    if b = true then te σ' H5 fun y H6 => ∃ k', k' < k ∧ W (i + 1) k' (ys ++ [y]) H6 else ∃ k', k' < k ∧ W (i + 1) k' ys H5)
theorem bck_of {cenv : PySem.Env} {Ag : Around} {pins : List (Addr × Obj)} {σ : L2.St} {H : Hp} {s : Shared} (I : Inv (gxC X s4 H4 cenv Ag fp pn) pins σ H s) (hS : ∀ b ∈ Ss, H b = none) : Bck X s4 H4 fp Ss pn H s :=
  ⟨I.os, I.bare, I.base, I.hok, hS, fun p hp => (I.pin p (List.mem_append_left _ hp)).1, I.nolimit⟩
theorem over_gx {A : Around} {elt : Expr} {gens : List Comprehension} {sc : Scope} {pos : Pos} {it : Value} {cenv : PySem.Env} {outer : List PySem.Env} (h : A.frames = some outer) :
    (A.over (.compLoop (.GeneratorExp elt gens sc pos) 0 it .none cenv) []).frames = some (cenv :: outer) := by
  simp only [Around.over]
  rw [h]
  rfl
theorem seg_gx {elt tg iter : Expr} {ifs : List Expr} {scope : Scope} {pos : Pos} {cenv : PySem.Env} {A Ag : Around} {J : L2.It} {it : Addr} {tn : Nat → Heap → Prop} {g : TG} {tt : TT} {te : TE} {own : List Nat} {σ : L2.St}
    {W : Nat → Nat → List V → Hp → Prop} {Qe : List V → Hp → Prop} {Cs : List V → Heap → Prop} {Al : List V → Prop} (hAl : ∀ ys h, Cs ys h → Al ys) (hA : A.over (.compLoop (.GeneratorExp elt [⟨tg, iter, ifs, 0⟩] scope pos) 0 (.ref it) .none cenv) [] = Ag)
    (hc : X.calm = true) (hco : cenv.scope.isCoroutine = false) (T : Turn X.prog X.w X.K tg J fp it tn)
    (pg : PG (gxC X s4 H4 cenv Ag fp pn) tg g) (pt : PTs (gxC X s4 H4 cenv Ag fp pn) ifs tt) (pe : PE (gxC X s4 H4 cenv Ag fp pn) elt te)
    (turn : TurnG Al J g tt te own σ W Qe) (C : Csm Ss Cs)
    (hS : ∀ b ∈ Ss, s4.heap.objs.size ≤ b ∧ b ≠ cenv.locals ∧ (∀ x c, cenv.cells.lookup x = some c → c ≠ b) ∧ (∀ p ∈ pn, p.1 ≠ b) ∧ b ∉ fp ∧ b ∉ frs X.stack) (hpn : ∀ p ∈ pn, p.1 ∉ fp) :
    ∀ (k n i : Nat) (ys : List V) (H : Hp) (s₀ s : Shared), k < n → Inv (gxC X s4 H4 cenv Ag fp pn) (pinsAt Ss s₀.heap) (wipe σ own) H s →
      tn i s.heap → (∀ b ∈ fp, H b = none) → W i k ys H → Cs ys s₀.heap →
      Seg (model X.prog X.w) A (fun n s₀ r s₁ => r = .ok .next ∧ RM X s4 H4 fp Ss pn Cs Qe n s₀ s₁) (YM X s4 H4 fp Ss pn Cs W) n s₀ (.compLoop (.GeneratorExp elt [⟨tg, iter, ifs, 0⟩] scope pos) 0 (.ref it) .none cenv)
        ((model X.prog X.w).den (.compLoop (.GeneratorExp elt [⟨tg, iter, ifs, 0⟩] scope pos) 0 (.ref it) .none cenv)) [] s := by
  have stat : ∀ {h0 : Heap} {σ' : L2.St} {H' : Hp} {s' : Shared}, Inv (gxC X s4 H4 cenv Ag fp pn) (pinsAt Ss h0) σ' H' s' → (∀ b ∈ fp, H' b = none) → ∀ b ∈ fp, FpOk (gxC X s4 H4 cenv Ag fp pn) (pinsAt Ss h0) H' b := fun {h0 σ' H' s'} I hn b hb =>
    ⟨hn b hb, (I.ok.exf b hb).1, I.ok.exfs b hb, .inl hb, fun x c e => (I.ok.exf b hb).2 x c e, fun p hp z => by
      rcases List.mem_append.mp hp with hp | hp
      · exact hpn p hp (by rw [z]; exact hb)
      · exact (hS p.1 (of_pinsAt hp).1).2.2.2.2.1 (by rw [z]; exact hb)⟩
  have free : ∀ {h0 : Heap} {pl : List (Addr × Obj)} {σ' : L2.St} {H' : Hp} {s' : Shared} {ys : List V}, Cs ys h0 → Inv (gxC X s4 H4 cenv Ag fp pn) (pinsAt Ss h0 ++ pl) σ' H' s' → (∀ b ∈ Ss, H' b = none) ∧ Cs ys s'.heap := fun {h0 pl σ' H' s' ys} hcs I => by
    refine ⟨fun b hb => ?_, C.stay ys h0 _ hcs fun b hb o e => (I.pin (b, o) (List.mem_append_right _ (List.mem_append_left _ (mem_pinsAt hb e)))).1⟩
    obtain ⟨o, e, _⟩ := C.live ys h0 hcs b hb
    exact (I.pin (b, o) (List.mem_append_right _ (List.mem_append_left _ (mem_pinsAt hb e)))).2.1
  intro k
  induction k using Nat.strongRecOn with
  | ind k ih =>
    intro n i ys H s₀ s hk I st fr w hcs
    show Seg _ A _ _ _ s₀ _ ((compTurn (.GeneratorExp elt [⟨tg, iter, ifs, 0⟩] scope pos) 0 (.ref it) .none cenv).onRaise (leaving cenv)) [] s
    rw [compTurn_gen, Sem.onRaise_eq_wrap]
    refine seg_bind_wrap (wpAny_standAt ?_)
    rcases turn i k ys H (hAl _ _ hcs) w with ⟨stop, qe⟩ | ⟨go, step⟩
    · refine seg_bind_wrap ?_
      rw [hA]
      refine wpAny_mono (T.done (gxC X s4 H4 cenv Ag fp pn) rfl rfl rfl hc i _ s _ H (fun _ _ => False) I (stat I fr) st stop) (fun r s1 hr => ?_) fun _ _ z => z.elim
      obtain ⟨rfl, I1⟩ := hr
      obtain ⟨f1, f2⟩ := free (pl := []) hcs (by rw [List.append_nil]; exact I1)
      exact seg_end (.ok .next) ⟨rfl, ys, H, qe, bck_of I1 f1, f2⟩
    · refine seg_bind_wrap ?_
      rw [hA]
      refine wpAny_mono (T.item (gxC X s4 H4 cenv Ag fp pn) rfl rfl rfl hc i _ s _ H (fun _ _ => False) I (stat I fr) st go) (fun r s1 hr => ?_) fun _ _ z => z.elim
      obtain ⟨u, rfl, h1⟩ := hr
      refine seg_bind_wrap ?_
      rw [hA]
      refine wpAny_mono h1 (fun _ s2 h2 => ?_) fun _ _ z => z.elim
      obtain ⟨x, H2, I2, rx, yl, st2, fr2⟩ := h2
      have I2' := I2.pinned (stat I2 fr2) (T.obj _ _ st2)
      refine seg_bind_wrap ?_
      rw [hA]
      refine wpAny_mono (pg.run _ s2 _ H2 x u _ I2' rx (step x H2 yl)) (fun _ s3 h3 => ?_) fun _ _ z => (show False from z).elim
      obtain ⟨σ3, H3, I3, hw3, q3⟩ := h3
      refine seg_bind_wrap ?_
      rw [hA]
      refine wpAny_mono (pt.run _ s3 σ3 H3 _ I3 q3) (fun b s5 h5 => ?_) fun _ _ z => (show False from z).elim
      obtain ⟨H5, I5, q5⟩ := h5
      have back : ∀ {σ9 : L2.St} {s' : Shared} {H' : Hp}, Inv (gxC X s4 H4 cenv Ag fp pn) (pinsAt Ss s₀.heap ++ pinsAt fp s2.heap) σ9 H' s' → σ9 = σ3 → Inv (gxC X s4 H4 cenv Ag fp pn) (pinsAt Ss s₀.heap) (wipe σ own) H' s' ∧ tn (i + 1) s'.heap ∧ ∀ b ∈ fp, H' b = none := fun {σ9 s' H'} I' e => by
        subst e
        have pin' : ∀ b ∈ fp, ∀ o, s2.heap.get? b = some o → s'.heap.get? b = some o ∧ H' b = none := fun b hb o e =>
          let z := I'.pin (b, o) (List.mem_append_right _ (List.mem_append_right _ (mem_pinsAt hb e)))
          ⟨z.1, z.2.1⟩
        refine ⟨I'.unpinned.weak (by rw [← hw3, wipe_length]) fun j v e => by rw [← hw3] at e; exact (wipe_some e).1, T.keep _ _ _ st2 fun b hb o e => (pin' b hb o e).1, fun b hb => ?_⟩
        obtain ⟨o, e, _⟩ := T.obj _ _ st2 b hb
        exact (pin' b hb o e).2
      cases b with
      | false =>
        simp only [Bool.false_eq_true, if_false] at q5 ⊢
        obtain ⟨k', hk', w5⟩ := q5
        obtain ⟨I6, st6, fr6⟩ := back I5 rfl
        exact seg_again rfl (ih k' hk' n (i + 1) ys H5 s₀ s5 (by omega) I6 st6 fr6 w5 hcs)
      | true =>
        simp only [if_true] at q5 ⊢
        have hy : ∀ v, yieldOut cenv v = yieldValue v := fun v => by simp only [yieldOut, hco, Bool.false_eq_true, if_false]
        simp only [hy]
        rw [Sem.bind_eq_wrap', Sem.bind_eq_wrap', Sem.wrap_wrap, Sem.wrap_wrap]
        refine seg_wrap ?_
        rw [hA]
        refine wpAny_mono (pe.run _ s5 σ3 H5 _ I5 q5) (fun v s6 h6 => ?_) fun _ _ z => (show False from z).elim
        obtain ⟨y, H6, I6, ry, k', hk', w6⟩ := h6
        obtain ⟨m, rfl⟩ : ∃ m, n = m + 1 := ⟨n - 1, by omega⟩
        obtain ⟨I7, st7, fr7⟩ := back I6 rfl
        obtain ⟨f1, f2⟩ := free (pl := []) hcs (by rw [List.append_nil]; exact I7)
        refine seg_at (seg_yield rfl rfl rfl ⟨i + 1, k', ys, y, H6, ry, by omega, w6, bck_of I7 f1, f2, fun s'' z hcs'' => ?_⟩)
        have nS : ∀ b u, H6 b = some u → b ∉ Ss := fun b u e hb => by rw [f1 b hb] at e; cases e
        have J : Inv (gxC X s4 H4 cenv Ag fp pn) [] (wipe σ own) H6 s'' := by
          have I8 : Inv (gxC X s4 H4 cenv Ag fp pn) [] (wipe σ own) H6 s6 := I7.pins_of fun p hp => by cases hp
          obtain ⟨hh, gg, dd, tt', oo⟩ := s''
          obtain ⟨z1, z2, z3⟩ := z
          have zo : oo = s6.os := z1
          subst zo
          refine I8.step (g' := gg) (t' := tt') (d' := dd) (ch := Ss) (fun b hb => ⟨.inr (hS b hb).1, (hS b hb).2.1, (hS b hb).2.2.1, fun p hp => ?_⟩) (fun b ob _ _ hc' q _ => z3 b ob hc' q) (fun b ob _ _ hc' q _ => ⟨ob.slots, z3 b ob hc' q⟩) (fun _ _ _ _ e => e) (fun b ob hc' q => ⟨ob, z3 b ob hc' q⟩)
            (fun _ _ q => q) (fun _ _ _ q => q) (fun b ps q => ⟨#[], by rw [q]; simp⟩) (fun mm hm => ?_) (fun b u q => ?_) z2
          · rcases List.mem_append.mp hp with hp | hp
            · exact (hS b hb).2.2.2.1 p hp
            · cases hp
          · obtain ⟨ob, es, ep, ho, r⟩ := hm
            exact ⟨ob, es, ep, z3 _ ob (fun hb => (hS _ hb).2.1 rfl) ho, r⟩
          · refine (I8.hok b u q).stay (fun c v hc' y' => z3 c v ?_ y') (fun _ y' => y') fun _ _ y' => y'
            rcases hc' with y' | y'
            · rw [y']; exact nS b u q
            · exact nS c _ y'
        have J2 : Inv (gxC X s4 H4 cenv Ag fp pn) (pinsAt Ss s''.heap) (wipe σ own) H6 s'' := J.pins_of fun p hp => by
          obtain ⟨hb, e⟩ := of_pinsAt hp
          obtain ⟨o, e', d⟩ := C.live _ _ hcs'' p.1 hb
          rw [e] at e'
          cases e'
          exact ⟨e, f1 p.1 hb, (hS p.1 hb).2.1, (hS p.1 hb).2.2.2.2.2, d⟩
        refine seg_again rfl (ih k' hk' m (i + 1) (ys ++ [y]) H6 s'' s'' (by omega) J2 (T.keep _ _ _ st7 fun b hb o e => z.keep b o (fun q => (hS b q).2.2.2.2.1 hb) e) fr7 w6 hcs'')
end
end Mi
set_option Elab.async false
set_option linter.all false
set_option maxRecDepth 100000
set_option maxHeartbeats 4000000
/-! Nc: a generator expression is made; its first waking. -/
namespace Mi
open PySem PySem.Spec PyProof.Rows L2 GenW
/-- a little deeper than A -/
structure Near (A Ag : Around) : Prop where
  hd : Ag.handled = none
  dp : Ag.depth ≤ A.depth + 3
  un : Ag.units ≤ A.units + 16
def GxMade (Al : List V → Prop) (X : Cx) (pins : List (Addr × Obj)) (σ : L2.St) (s4 : Shared) (H4 : Hp) (W : Nat → Nat → List V → Hp → Prop) (Qe : List V → Hp → Prop) (m0 : Nat) (u : Value) (s5 : Shared) : Prop :=
  ∃ (a g : Nat) (c : Code) (fp : List Addr) (go : Obj), u = .ref a ∧ s5.heap.get? a = some go ∧ (∀ h : Heap, h.get? a = some go → h.IsGen a g) ∧ s5.gens[g]? = some (.fresh c) ∧ s5.os = s4.os ∧ AllBare s5.gens ∧ s5.heap.NoLimit ∧ (∀ b o, s4.heap.get? b = some o → s5.heap.get? b = some o) ∧
    Inv X pins σ H4 s4 ∧ (∀ b ∈ fp, FpOk X pins H4 b ∧ b < s4.heap.objs.size) ∧ s4.heap.objs.size < a ∧ a < s5.heap.objs.size ∧
    ∀ (A : Around) (Ss : List Addr) (Cs : List V → Heap → Prop) (n : Nat) (s6 : Shared), Csm Ss Cs → (∀ ys h, Cs ys h → Al ys) → A.handled = none → A.depth ≤ X.A.depth + 2 → A.units ≤ X.A.units + 13 → A.frames = some X.stack → (∀ b ∈ Ss, s5.heap.objs.size ≤ b) →
      (∀ b o, s5.heap.get? b = some o → s6.heap.get? b = some o) → s6.os = s5.os → AllBare s6.gens → Cs [] s6.heap → m0 < n →
      Seg (model X.prog X.w) A (fun n s₀ r s₁ => r = .ok .next ∧ RM X s4 H4 fp Ss [(a, go)] Cs Qe n s₀ s₁) (YM X s4 H4 fp Ss [(a, go)] Cs W) n s6 c ((model X.prog X.w).den c) [] s6
section
variable {X : Cx} {pins : List (Addr × Obj)} {σ : L2.St} {H : Hp} {s : Shared}
theorem gx_make {Al : List V → Prop} {c P : Addr} {elt tg iter : Expr} {ifs : List Expr} {scope : Scope} {own : List (Str × Nat)} {gpos : Pos} {wi : TI} {g : TG} {tt : TT} {te : TE} {Q' : Value → Shared → Prop} {R : (Nat → Nat → List V → Hp → Prop) → (List V → Hp → Prop) → Prop}
    (hc : X.calm = true) (hroom : X.A.depth < recursionLimit) (TB : GxR.TabB X.base X.mg c P) (hcode : X.env.code = .ref c) (hN : X.N.Nodup) (ok : BlkOk X.N X.env.scope scope own) (nc : ∀ y ∈ scope.names, y.2 ≠ .cell) (co : scope.isCoroutine = false) (dot : scope.names.lookup (".0" : Str) = some NameKind.local)
    (hi : PI X tg iter wi) (hs : ∀ v, genFold iter X.env v = pure v)
    (pg : ∀ (s : Shared) (H : Hp) (C : Addr) (code : Value) (Ag : Around) (fp : List Addr) (pn : List (Addr × Obj)), Near X.A Ag → PG (gxC X s H (gxEnv X scope C code) Ag fp pn) tg g)
    (pt : ∀ (s : Shared) (H : Hp) (C : Addr) (code : Value) (Ag : Around) (fp : List Addr) (pn : List (Addr × Obj)), Near X.A Ag → PTs (gxC X s H (gxEnv X scope C code) Ag fp pn) ifs tt)
    (pe : ∀ (s : Shared) (H : Hp) (C : Addr) (code : Value) (Ag : Around) (fp : List Addr) (pn : List (Addr × Obj)), Near X.A Ag → PE (gxC X s H (gxEnv X scope C code) Ag fp pn) elt te)
    (I : Inv X pins σ H s)
    (h : wi σ H fun J H1 => GxR.TabG H1 P ∧ ∀ H4, GxR.Tabbed P H1 H4 → ∃ W Qe m0, W 0 m0 [] H4 ∧ TurnG Al J g tt te (own.map (·.2)) σ W Qe ∧ R W Qe)
    (hQ : ∀ u s4 s5 H4 W Qe m0, GxMade Al X pins σ s4 H4 W Qe m0 u s5 → R W Qe → Q' u s5) :
    wpAny (model X.prog X.w) X.A (eval (.GeneratorExp elt [⟨tg, iter, ifs, 0⟩] scope gpos) X.env) Q' X.xe s := by
  refine wpAny_GeneratorExp_make co (closure_ok fun y hy e => ?_) nc dot ok.kind hroom ?_ hs
  · rcases ok.free y hy e with k | k
    · exact I.ok.has _ (.inl k)
    · exact I.ok.has _ (.inr k)
  refine thn (hi.run pins s σ H _ I h) fun xv s1 h1 => thn h1 fun itv s2 h2 => ?_
  obtain ⟨it, fp, tn, J, H2, rfl, I2, T, st2, f2, ⟨ps, hP, ht⟩, q2⟩ := h2
  have lim2 := I2.nolimit
  refine ⟨lim2, ?_⟩
  have hPs : s2.heap.get? P = some { cls := .none, data := .fields ps } := I2.hok P _ hP
  have hPlt : P < s2.heap.objs.size := Heap.lt_size hPs
  have cd : PySem.W.CodeHd s2.heap c P := TB.code.keeps I2.bk
  have fpP : ∀ b ∈ fp, b ≠ P := fun b hb z => by
    have := (f2 b hb).1
    rw [z, hP] at this
    cases this
  have cont : ∀ (code : Value) (h3 : Heap) (tk : Nat) (ps' : Array Value), Heap.ExtBut P s2.heap h3 → s2.heap.objs.size ≤ h3.objs.size → h3.get? P = some { cls := .none, data := .fields ps' } → (∃ more, ps' = ps ++ more) → TriplesOk ps'.toList →
      wpAny (model X.prog X.w) X.A (builtinsFor X.env.globals X.env.builtins) (fun bi s₄ =>
        ∀ h', h'.Ns s₄.heap.objs.size (fun y => if y = ".0" then some (.ref it) else none) → Heap.SameBut s₄.heap.objs.size (s₄.heap.push { cls := .type "frame", data := .dict #[] }) h' →
          Q' (.ref h'.objs.size) { s₄ with
            gens := s₄.gens.push (.fresh (.compStart (.GeneratorExp elt [⟨tg, iter, ifs, 0⟩] scope gpos) 0 (.ref it) .none (genEnv scope (cloFrom X.env.cells scope.names []) s₄.heap.objs.size code bi X.env))),
            toks := s₄.toks + 1 + 1 + 1,
            heap := h'.push { cls := .type "generator", data := .fields #[.int s₄.gens.size 0, .str "<genexpr>" (s₄.toks + 1), .str (X.env.qual ++ "<genexpr>") (s₄.toks + 1 + 1)] } }) X.xe { s2 with heap := h3, toks := tk } := by
    intro code h3 tk ps' hx hsz hP3 hmore ht3
    obtain ⟨bm, ob, e1, e2, e3, e4, e5, e6, e7, e8⟩ := TB.bm
    have keep3 : ∀ b u, b ≠ P → s2.heap.get? b = some u → h3.get? b = some u := fun b u hb e => hx b u hb e
    refine wpAny_builtinsFor (m := X.mg) (by rw [I2.ok.glob]; exact (I2.mod.glob.keeps I2.bk).extBut hx TB.gP) e1 e2 (keep3 _ _ e4 (I2.bk _ _ e5)) e6 e7 e8 ?_
    intro h' hns hsb
    obtain ⟨more, em⟩ := hmore
    have I4 := GxR.inv_tab (more := more) (h' := h3) (g' := s2.gens) (d' := s2.drawn) (t' := tk) I2 hP (fun b u hb e => keep3 b u hb e) (by rw [← em]; exact hP3) I2.bare
    have hT : GxR.Tabbed P H2 (upd H2 P (.tbl (ps ++ more))) := ⟨⟨ps ++ more, upd_same, by rw [← em]; exact ht3⟩, fun b hb => upd_ne hb⟩
    obtain ⟨W, Qe, m0, w0, turn, hR⟩ := q2 _ hT
    generalize hH4 : upd H2 P (.tbl (ps ++ more)) = H4 at I4 w0
    have f4 : ∀ b ∈ fp, FpOk X pins H4 b ∧ b < h3.objs.size := fun b hb => by
      obtain ⟨o, e, _⟩ := T.obj _ _ st2 b hb
      refine ⟨⟨?_, (f2 b hb).2⟩, Nat.lt_of_lt_of_le (Heap.lt_size e) hsz⟩
      rw [← hH4, upd_ne (fpP b hb)]
      exact (f2 b hb).1
    have st3 : tn 0 h3 := T.keep _ _ _ st2 fun b hb o e => keep3 b o (fpP b hb) e
    have hns : h'.Ns h3.objs.size (fun y => if y = ".0" then some (.ref it) else none) := hns
    have hsb : Heap.SameBut h3.objs.size (h3.push { cls := .type "frame", data := .dict #[] }) h' := hsb
    have hsz' : h'.objs.size = h3.objs.size + 1 := by rw [hsb.1, Heap.size_push]
    have keep' : ∀ b o, h3.get? b = some o → h'.get? b = some o := fun b o e => hsb.extBut b o (Nat.ne_of_lt (Heap.lt_size e)) (Heap.get?_push_of_some _ e)
    generalize hgo : ({ cls := .type "generator", data := .fields #[.int s2.gens.size 0, .str "<genexpr>" (tk + 1), .str (X.env.qual ++ "<genexpr>") (tk + 1 + 1)] } : Obj) = go
    have keep5 : ∀ b o, h3.get? b = some o → (h'.push go).get? b = some o := fun b o e => Heap.get?_push_of_some _ (keep' b o e)
    refine hQ _ { s2 with heap := h3, toks := tk } _ H4 W Qe m0 ⟨h'.objs.size, s2.gens.size, _, fp, go, rfl, ?_, ?_, Array.getElem?_push_size .., rfl, I2.bare.push rfl, ?_, ?_, I4, f4, ?_, ?_, ?_⟩ hR
    · show (h'.push _).get? _ = _
      try rw [hgo]
      exact Heap.get?_push_size _ (by rw [← hgo]; rfl)
    · exact fun h e => ⟨go, _, _, e, by rw [← hgo], by rw [← hgo], by rw [← hgo]⟩
    · show (h'.push _).NoLimit
      try rw [hgo]
      exact I4.nolimit.keeps keep5
    · show ∀ b o, h3.get? b = some o → (h'.push _).get? b = some o
      try rw [hgo]
      exact keep5
    · show h3.objs.size < h'.objs.size
      rw [hsz']
      exact Nat.lt_succ_self _
    · show h'.objs.size < (h'.push _).objs.size
      rw [Heap.size_push]
      exact Nat.lt_succ_self _
    · intro A Ss Cs n s6 C hAl hA hAd hAu hAf hSs kp6 os6 ba6 cs6 hn
      have kp6 : ∀ b o, (h'.push go).get? b = some o → s6.heap.get? b = some o := kp6
      have hSs : ∀ b ∈ Ss, h3.objs.size + 2 ≤ b := fun b hb => by
        have : (h'.push _).objs.size ≤ b := hSs b hb
        rw [Heap.size_push, hsz'] at this
        exact this
      have hgo6 : s6.heap.get? h'.objs.size = some go := kp6 _ _ (Heap.get?_push_size _ (by rw [← hgo]; rfl))
      have nr : Near X.A (A.over (.compLoop (.GeneratorExp elt [⟨tg, iter, ifs, 0⟩] scope gpos) 0 (.ref it) .none (gxEnv X scope h3.objs.size code)) []) := ⟨hA, by
        have : (A.over (.compLoop (.GeneratorExp elt [⟨tg, iter, ifs, 0⟩] scope gpos) 0 (.ref it) .none (gxEnv X scope h3.objs.size code)) []).depth ≤ A.depth + 1 := Nat.le_of_eq rfl
        omega, by
        have : (A.over (.compLoop (.GeneratorExp elt [⟨tg, iter, ifs, 0⟩] scope gpos) 0 (.ref it) .none (gxEnv X scope h3.objs.size code)) []).units ≤ A.units + 3 := Nat.le_of_eq rfl
        omega⟩
      have J0 := gx_start (X := X) (s := { s2 with heap := h3, toks := tk }) (s' := s6) (fp := fp) (pn := [(h'.objs.size, go)]) (code := code) (it := .ref it)
        (Ag := A.over (.compLoop (.GeneratorExp elt [⟨tg, iter, ifs, 0⟩] scope gpos) 0 (.ref it) .none (gxEnv X scope h3.objs.size code)) []) I4 ok nc hN f4 hA (over_gx hAf)
        (fun p hp => by
          rw [List.mem_singleton.mp hp]
          exact ⟨hgo6, by show h3.objs.size < h'.objs.size; rw [hsz']; exact Nat.lt_succ_self _, fun v q => by rw [← hgo] at q; cases q⟩) os6 ba6 (fun b o e => kp6 b o (keep5 b o e)) (hns.keeps fun b o e => kp6 b o (Heap.get?_push_of_some _ e))
      have no2 : ∀ {b : Addr}, h3.objs.size + 2 ≤ b → b = h3.objs.size → False := fun {b} h e => by
        rw [e] at h
        exact absurd h (Nat.not_le.mpr (Nat.lt_add_of_pos_right (by decide)))
      have no3 : ∀ {b : Addr}, h3.objs.size + 2 ≤ b → b < h3.objs.size + 2 → False := fun {b} h e => absurd h (Nat.not_le.mpr e)
      have frS : ∀ b ∈ Ss, b ∉ frs X.stack := fun b hb z => by
        have h9 := hSs b hb
        rcases List.mem_cons.mp (I4.stkSub b z) with z | z
        · have := I4.lt
          rw [← z] at this
          have : b < h3.objs.size := this
          exact absurd (Nat.lt_of_lt_of_le this (Nat.le_trans (Nat.le_add_right _ 2) h9)) (Nat.lt_irrefl _)
        · exact I4.nofs (Nat.le_trans (Nat.le_add_right _ 2) h9) z
      have J1 : Inv (gxC X { s2 with heap := h3, toks := tk } H4 (gxEnv X scope h3.objs.size code) (A.over (.compLoop (.GeneratorExp elt [⟨tg, iter, ifs, 0⟩] scope gpos) 0 (.ref it) .none (gxEnv X scope h3.objs.size code)) []) fp [(h'.objs.size, go)]) (pinsAt Ss s6.heap) (wipe σ (own.map (·.2))) H4 s6 := J0.pins_of fun p hp => by
        obtain ⟨hb, e⟩ := of_pinsAt hp
        obtain ⟨o, e', d⟩ := C.live _ _ cs6 p.1 hb
        rw [e] at e'
        cases e'
        have h9 := hSs p.1 hb
        refine ⟨e, I4.hok.fresh (Nat.le_trans (Nat.le_add_right _ 2) h9), fun z => ?_, frS p.1 hb, d⟩
        have z : p.1 = h3.objs.size := z
        exact absurd h9 (by rw [z]; exact Nat.not_le.mpr (Nat.lt_add_of_pos_right (by decide)))
      have loop := seg_gx (X := X) (s4 := { s2 with heap := h3, toks := tk }) (H4 := H4) (pn := [(h'.objs.size, go)]) (A := A) (elt := elt) (ifs := ifs) (iter := iter) (scope := scope) (pos := gpos) hAl rfl hc co T (pg _ _ _ _ _ _ _ nr) (pt _ _ _ _ _ _ _ nr) (pe _ _ _ _ _ _ _ nr) turn C (fun b hb => by
          have h9 := hSs b hb
          refine ⟨Nat.le_trans (Nat.le_add_right _ 2) h9, fun z => ?_, fun x c e z => ?_, fun p hp z => ?_, fun z => ?_, frS b hb⟩
          · have z : b = h3.objs.size := z
            exact no2 h9 z
          · rcases cloFrom_mem (PySem.mem_of_lookup e) with hm | ⟨h1, h2⟩
            · cases hm
            · obtain ⟨c', hc'⟩ : ∃ c, X.env.cells.lookup x = some c := by
                rcases ok.free _ h1 rfl with k | k
                · exact I4.ok.has _ (.inl k)
                · exact I4.ok.has _ (.inr k)
              rw [hc'] at h2
              obtain ⟨w, q⟩ := I4.cell _ _ hc'
              have := q.lt
              have h2 : c = c' := h2
              have : c' < h3.objs.size := this
              exact no3 h9 (by rw [← z, h2]; exact Nat.lt_succ_of_lt (Nat.lt_succ_of_lt this))
          · rw [List.mem_singleton.mp hp] at z
            have z : h'.objs.size = b := z
            exact no3 h9 (by rw [← z, hsz']; exact Nat.lt_succ_self _)
          · exact no3 h9 (Nat.lt_succ_of_lt (Nat.lt_succ_of_lt (f4 b z).2))) (fun p hp z => by
          rw [List.mem_singleton.mp hp] at z
          have : h'.objs.size < h3.objs.size := (f4 _ z).2
          rw [hsz'] at this
          exact absurd this (Nat.not_lt.mpr (Nat.le_succ _))) m0 n 0 [] H4 s6 s6 hn J1 (T.keep _ _ _ st3 fun b _ o e => kp6 b o (keep5 b o e)) (fun b hb => (f4 b hb).1.1) w0 cs6
      show Seg _ A _ _ _ s6 _ ((compStart (.GeneratorExp elt [⟨tg, iter, ifs, 0⟩] scope gpos) 0 (.ref it) .none _).onRaise (leaving _)) [] s6
      unfold compStart
      rw [Sem.onRaise_eq_wrap]
      show Seg _ A _ _ _ s6 _ ((ask >>= _).wrap _ _ _ _) [] s6
      refine seg_bind_wrap (wpAny_askSetting ?_)
      have st6 : tn 0 s6.heap := T.keep _ _ _ st3 fun b _ o e => kp6 b o (keep5 b o e)
      split
      · exact seg_again rfl loop
      · first
          | exact seg_bind_wrap (wpAny_rule (seg_bind_wrap (wpAny_standAt (seg_bind_wrap (T.self _ 0 s6 _ _ st6 (seg_again rfl loop))))))
          | (refine seg_bind_wrap (wpAny_rule ?_); show Seg _ A _ _ _ s6 _ ((standAt iter.pos >>= _).wrap _ _ _ _) [] s6; exact seg_bind_wrap (wpAny_standAt (seg_bind_wrap (T.self _ 0 s6 _ _ st6 (seg_again rfl loop)))))
  cases hf : codeAmong gpos ps.toList with
  | none =>
    refine wpAny_genexprCodeX hcode (cd.code hPs ht) (cd.tab hPs) hf fun c' h' tk hx hge hlt hco' _ htab' _ => ?_
    obtain ⟨o1, vs, f1, tf, fl, tg', inF, tx, tt', op, _, _, _, _, _, _, _, _, _, htr, _⟩ := hco'
    exact cont _ h' tk _ hx (Nat.le_trans hge (Nat.le_of_lt hlt)) htab'.2 ⟨_, rfl⟩ htr
  | some cv =>
    refine wpAny_genexprCode_hit hcode (cd.code hPs ht) hf ?_
    exact cont cv s2.heap s2.toks ps (Heap.ExtBut.refl _ _) (Nat.le_refl _) hPs ⟨#[], by simp⟩ ht
end
end Mi
set_option Elab.async false
set_option linter.all false
set_option maxRecDepth 100000
set_option maxHeartbeats 4000000
/-! Nd: whoever asks a generator expression: next, any, all. -/
namespace Mi
open PySem PySem.Spec PyProof.Rows L2 GenW
section
variable {X : Cx} {s4 : Shared} {H4 : Hp} {fp Ss : List Addr} {pn : List (Addr × Obj)} {Cs : List V → Heap → Prop} {W : Nat → Nat → List V → Hp → Prop} {Qe : List V → Hp → Prop} {A : Around} {a : Addr} {g : Nat}
/-- the generator a sleeps; n: how often it may still be asked; A: who asks -/
structure GxAt (X : Cx) (s4 : Shared) (H4 : Hp) (fp Ss : List Addr) (pn : List (Addr × Obj)) (Cs : List V → Heap → Prop) (W : Nat → Nat → List V → Hp → Prop) (Qe : List V → Hp → Prop) (a : Addr) (g : Nat) (A : Around) (n : Nat) (s : Shared) : Prop where
  gen : s.heap.IsGen a g
  lim : s.heap.NoLimit
  st : ∃ gs, s.gens[g]? = some gs ∧ gs.Goes (model X.prog X.w) A.in1 (fun n s₀ r s₁ => r = .ok .next ∧ RM X s4 H4 fp Ss pn Cs Qe n s₀ s₁) (YM X s4 H4 fp Ss pn Cs W) n (.send .none) (s.setGen g .running)
theorem Bck.gens {H : Hp} {s : Shared} {x : GenState} (b : Bck X s4 H4 fp Ss pn H s) (hx : x.bare = true) : Bck X s4 H4 fp Ss pn H (s.setGen g x) :=
  ⟨b.os, allBare_setGen b.bare hx, b.un, b.hok, b.own, b.pn, b.lim⟩
theorem Bck.kept {H : Hp} {s : Shared} {h' : Heap} {t' : Nat} (b : Bck X s4 H4 fp Ss pn H s) (hk : ∀ c o, s.heap.get? c = some o → h'.get? c = some o) : Bck X s4 H4 fp Ss pn H { s with heap := h', toks := t' } :=
  ⟨b.os, b.bare, b.un.trans (Un.kept hk), b.hok.kept hk, b.own, fun p hp => hk _ _ (b.pn p hp), b.lim.keeps hk⟩
theorem Bck.toks {H : Hp} {s : Shared} (t : Nat) (b : Bck X s4 H4 fp Ss pn H s) : Bck X s4 H4 fp Ss pn H { s with toks := t } := b.kept (h' := s.heap) fun _ _ e => e
theorem next_M {go : Obj} {n : Nat} {s : Shared} {Q : Option Value → Shared → Prop} {E : Value → Shared → Prop} (hp : pn = [(a, go)]) (hgen : ∀ h : Heap, h.get? a = some go → h.IsGen a g) (hh : A.handled = none) (hroom : A.depth < recursionLimit) (hSa : a ∉ Ss) (hSc : cStatics ∉ Ss) (G : GxAt X s4 H4 fp Ss pn Cs W Qe a g A n s) (C : Csm Ss Cs)
    (hY : ∀ v s1 i k ys y H m, n = m + 1 → RelV y v → k < m → W i k (ys ++ [y]) H → Bck X s4 H4 fp Ss pn H s1 → Cs ys s1.heap →
      (∀ s', s'.os = s1.os → s'.gens = s1.gens → (∀ b o, b ∉ Ss → s1.heap.get? b = some o → s'.heap.get? b = some o) → Cs (ys ++ [y]) s'.heap → GxAt X s4 H4 fp Ss pn Cs W Qe a g A m s') → Q (some v) s1)
    (hE : ∀ s1 ys H, Qe ys H → Bck X s4 H4 fp Ss pn H s1 → Cs ys s1.heap → Q none s1) : wpAny (model X.prog X.w) A (pyNext (.ref a)) Q E s := by
  obtain ⟨hg, hl, gs, hgs, hgo⟩ := G
  have hgl : g < s.gens.size := (Array.getElem?_eq_some_iff.mp hgs).1
  obtain ⟨o0, nm, qn, ho0, hc0, hd0, hs0⟩ := hg
  refine wpAny_gsz (n := g + 1) hgl (wpAny_pyNext_genexpQ hh hl hroom ⟨o0, nm, qn, ho0, hc0, hd0, hs0⟩ hgs hgo (fun v s₁ gs' hbare hv => ?_) (fun s₁ hq h' hk => ?_))
  · intro hsz
    obtain ⟨i, k, ys, y, H, rv, hk, w, b, cs, kap⟩ := hv
    have hsz1 : g < s₁.gens.size := by
      have q : (s₁.setGen g gs').gens.size = s₁.gens.size := setGen_size _ _ _
      have hsz' : g + 1 ≤ (s₁.setGen g gs').gens.size := hsz
      omega
    cases n with
    | zero =>
      exact absurd hk (Nat.not_lt_zero _)
    | succ m =>
      refine hY v _ i k ys y H m rfl rv (by simpa using hk) w (b.gens hbare) cs fun s' os' gens' kp' cs' => ⟨?_, ?_, gs', by rw [gens']; exact setGen_at hsz1, ?_⟩
      · exact hgen _ (kp' a go hSa (b.pn (a, go) (by rw [hp]; exact List.mem_cons_self)))
      · obtain ⟨mc, hns, hnn⟩ := b.lim
        exact ⟨mc, hns.at' fun o e => kp' _ o hSc e, hnn⟩
      · refine kap _ ⟨os', ?_, fun c o hc e => kp' c o hc e⟩ cs'
        exact allBare_setGen (by rw [gens']; exact allBare_setGen b.bare hbare) rfl
  · intro _
    obtain ⟨ys, H, qe, b, cs⟩ := hq
    exact hE _ ys H qe ((b.gens rfl).kept (t' := _) hk) (C.stay _ _ _ cs fun c _ o e => hk c o e)
/-! ### any, all -/
def CsB (b : Bool) : List V → Heap → Prop := fun ys _ => ∀ z ∈ ys, z = .bl b
theorem csm_b (b : Bool) : Csm [] (CsB b) := ⟨fun _ _ _ b hb => (by cases hb), fun _ _ _ h _ => h⟩
theorem any_M {go : Obj} {R : Result → Shared → Prop} (hp : pn = [(a, go)]) (hgen : ∀ h : Heap, h.get? a = some go → h.IsGen a g) (hh : A.handled = none) (hroom : A.depth < recursionLimit)
    (hT : ∀ s1 i k ys y H, W i k (ys ++ [y]) H → Bck X s4 H4 fp [] pn H s1 → (∀ z ∈ ys, z = .bl false) → ∃ b, y = .bl b ∧ (b = true → R (.ok (.ret (.bool true))) s1))
    (hF : ∀ s1 ys H, Qe ys H → Bck X s4 H4 fp [] pn H s1 → (∀ z ∈ ys, z = .bl false) → R (.ok (.ret (.bool false))) s1) :
    ∀ (n : Nat) (s : Shared), GxAt X s4 H4 fp [] pn (CsB false) W Qe a g A.in1 n s → codeAny (model X.prog X.w) A (.builtin "any.loop" ⟨[.ref a], []⟩) R s := by
  intro n
  induction n with
  | zero =>
    intro s G
    refine codeAny_builtin F.entry_any_loop ?_
    rw [Around.under_plainId F.plain_any_loop _]
    show wpAny _ A.in1 (pyNext (.ref a) >>= _) _ _ s
    refine wpAny_bind (next_M (A := A.in1) hp hgen hh hroom (by simp) (by simp) G (csm_b false) (fun v s1 i k ys y H m e => by cases e) fun s1 ys H qe b cs => ?_)
    exact wpAny_bind (wpAny_rule (wpAny_pure (hF s1 ys H qe b cs)))
  | succ n ih =>
    intro s G
    refine codeAny_builtin F.entry_any_loop ?_
    rw [Around.under_plainId F.plain_any_loop _]
    show wpAny _ A.in1 (pyNext (.ref a) >>= _) _ _ s
    refine wpAny_bind (next_M (A := A.in1) hp hgen hh hroom (by simp) (by simp) G (csm_b false) (fun v s1 i k ys y H m e rv hk w b cs kap => ?_) fun s1 ys H qe b cs => ?_)
    · obtain rfl : n = m := Nat.succ.inj e
      obtain ⟨bb, rfl, hbt⟩ := hT s1 i k ys y H w b cs
      obtain rfl : v = Value.bool bb := rv
      refine wpAny_bind (wpAny_holding (wpAny_truthy_bool ?_))
      refine wpAny_bind (wpAny_letGo ?_)
      cases bb with
      | false =>
        simp only [Bool.false_eq_true, if_false]
        refine wpAny_pure ⟨plainId_quiet F.plain_any_loop _, ih _ (kap _ rfl rfl (fun _ _ _ e => e) fun z hz => ?_)⟩
        rcases List.mem_append.mp hz with hz | hz
        · exact cs z hz
        · exact List.mem_singleton.mp hz
      | true =>
        simp only [if_true]
        exact wpAny_bind (wpAny_rule (wpAny_pure (hbt rfl)))
    · exact wpAny_bind (wpAny_rule (wpAny_pure (hF s1 ys H qe b cs)))
theorem all_M {go : Obj} {R : Result → Shared → Prop} (hp : pn = [(a, go)]) (hgen : ∀ h : Heap, h.get? a = some go → h.IsGen a g) (hh : A.handled = none) (hroom : A.depth < recursionLimit)
    (hT : ∀ s1 i k ys y H, W i k (ys ++ [y]) H → Bck X s4 H4 fp [] pn H s1 → (∀ z ∈ ys, z = .bl true) → ∃ b, y = .bl b ∧ (b = false → R (.ok (.ret (.bool false))) s1))
    (hF : ∀ s1 ys H, Qe ys H → Bck X s4 H4 fp [] pn H s1 → (∀ z ∈ ys, z = .bl true) → R (.ok (.ret (.bool true))) s1) :
    ∀ (n : Nat) (s : Shared), GxAt X s4 H4 fp [] pn (CsB true) W Qe a g A.in1 n s → codeAny (model X.prog X.w) A (.builtin "all.loop" ⟨[.ref a], []⟩) R s := by
  intro n
  induction n with
  | zero =>
    intro s G
    refine codeAny_builtin F.entry_all_loop ?_
    rw [Around.under_plainId F.plain_all_loop _]
    show wpAny _ A.in1 (pyNext (.ref a) >>= _) _ _ s
    refine wpAny_bind (next_M (A := A.in1) hp hgen hh hroom (by simp) (by simp) G (csm_b true) (fun v s1 i k ys y H m e => by cases e) fun s1 ys H qe b cs => ?_)
    exact wpAny_bind (wpAny_rule (wpAny_pure (hF s1 ys H qe b cs)))
  | succ n ih =>
    intro s G
    refine codeAny_builtin F.entry_all_loop ?_
    rw [Around.under_plainId F.plain_all_loop _]
    show wpAny _ A.in1 (pyNext (.ref a) >>= _) _ _ s
    refine wpAny_bind (next_M (A := A.in1) hp hgen hh hroom (by simp) (by simp) G (csm_b true) (fun v s1 i k ys y H m e rv hk w b cs kap => ?_) fun s1 ys H qe b cs => ?_)
    · obtain rfl : n = m := Nat.succ.inj e
      obtain ⟨bb, rfl, hbt⟩ := hT s1 i k ys y H w b cs
      obtain rfl : v = Value.bool bb := rv
      refine wpAny_bind (wpAny_holding (wpAny_truthy_bool ?_))
      refine wpAny_bind (wpAny_letGo ?_)
      cases bb with
      | true =>
        simp only [if_true]
        refine wpAny_pure ⟨plainId_quiet F.plain_all_loop _, ih _ (kap _ rfl rfl (fun _ _ _ e => e) fun z hz => ?_)⟩
        rcases List.mem_append.mp hz with hz | hz
        · exact cs z hz
        · exact List.mem_singleton.mp hz
      | false =>
        simp only [Bool.false_eq_true, if_false]
        exact wpAny_bind (wpAny_rule (wpAny_pure (hbt rfl)))
    · exact wpAny_bind (wpAny_rule (wpAny_pure (hF s1 ys H qe b cs)))
/-- back in the def -/
theorem Bck.inv {pins : List (Addr × Obj)} {σ : L2.St} {H : Hp} {s : Shared} (b : Bck X s4 H4 fp Ss pn H s) (I : Inv X pins σ H4 s4) (f : ∀ b ∈ fp, FpOk X pins H4 b ∧ b < s4.heap.objs.size) : Inv X pins σ H s :=
  I.call' (ch := fp) b.os b.un b.hok b.bare fun c hc => ⟨(f c hc).1.2.2.2.1, (f c hc).1.2.1, (f c hc).1.2.2.2.2.1, (f c hc).1.2.2.2.2.2⟩
/-- the generator that has just been made, asked by A -/
theorem GxMade.at_ {Al : List V → Prop} {pins : List (Addr × Obj)} {σ : L2.St} {m0 : Nat} {u : Value} {s5 : Shared} (h : GxMade Al X pins σ s4 H4 W Qe m0 u s5) : ∃ a g go fp, u = .ref a ∧ (∀ h : Heap, h.get? a = some go → h.IsGen a g) ∧ s5.heap.get? a = some go ∧ a < s5.heap.objs.size ∧ s5.heap.NoLimit ∧ AllBare s5.gens ∧ s5.os = s4.os ∧
    Inv X pins σ H4 s4 ∧ (∀ b ∈ fp, FpOk X pins H4 b ∧ b < s4.heap.objs.size) ∧ (∀ b o, s4.heap.get? b = some o → s5.heap.get? b = some o) ∧
    ∀ (A : Around) (Ss : List Addr) (Cs : List V → Heap → Prop) (s6 : Shared), Csm Ss Cs → (∀ ys h, Cs ys h → Al ys) → A.handled = none → A.depth ≤ X.A.depth + 2 → A.units ≤ X.A.units + 12 → A.frames = some X.stack → (∀ b ∈ Ss, s5.heap.objs.size ≤ b) →
      (∀ b o, s5.heap.get? b = some o → s6.heap.get? b = some o) → s6.os = s5.os → s6.gens = s5.gens → Cs [] s6.heap → GxAt X s4 H4 fp Ss [(a, go)] Cs W Qe a g A (m0 + 1) s6 := by
  obtain ⟨a, g, c, fp, go, rfl, hgo, hgen, hgs, hos, hb, hl, hk, I, f, ha, ha2, wake⟩ := h
  refine ⟨a, g, go, fp, rfl, hgen, hgo, ha2, hl, hb, hos, I, f, hk, fun A Ss Cs s6 C h0 h1 h2 h3 h4 h5 h6 h7 h8 h9 => ⟨hgen _ (h6 _ _ hgo), hl.keeps h6, .fresh c, by rw [h8]; exact hgs, rfl, ?_⟩⟩
  exact wake A.in1 Ss Cs (m0 + 1) _ C h0 h1 h2 (by show A.units + 1 ≤ _; omega) h4 h5 h6 h7 (allBare_setGen (by rw [h8]; exact hb) rfl) h9 (Nat.lt_succ_self _)
end
end Mi
set_option Elab.async false
set_option linter.all false
set_option maxRecDepth 100000
set_option maxHeartbeats 4000000
/-! Nf: a list, a tuple of a generator expression. -/
namespace Mi
open PySem PySem.Spec PyProof.Rows L2 GenW
open AutoSeq1 (wpAny_loadPart')
def CsL (S : Addr) : List V → Heap → Prop := fun ys h => ∃ (acc : Array Value) (c : Nat), h.get? S = some (lstObj acc c) ∧ Vals ys acc.toList
theorem csm_l (S : Addr) : Csm [S] (CsL S) := ⟨fun ys h ⟨acc, c, e, _⟩ b hb => by rw [List.mem_singleton.mp hb]; exact ⟨_, e, fun v q => by cases q⟩, fun ys h h' ⟨acc, c, e, r⟩ k => ⟨acc, c, k S (List.mem_singleton.mpr rfl) _ e, r⟩⟩
section
variable {X : Cx} {s4 : Shared} {H4 : Hp} {fp Ss : List Addr} {pn : List (Addr × Obj)} {W : Nat → Nat → List V → Hp → Prop} {Qe : List V → Hp → Prop} {A : Around} {a S : Addr} {g : Nat}
theorem drain_M {go : Obj} {res : Value} {R : Result → Shared → Prop} (hp : pn = [(a, go)]) (hgen : ∀ h : Heap, h.get? a = some go → h.IsGen a g) (hh : A.handled = none) (hroom : A.depth < recursionLimit) (hSa : a ≠ S) (hSc : cStatics ≠ S)
    (hb : ∀ i k ys H, W i k ys H → ys.length ≤ sizeLine)
    (hend : ∀ s1 ys H acc c, Qe ys H → Bck X s4 H4 fp [S] pn H s1 → s1.heap.get? S = some (lstObj acc c) → Vals ys acc.toList → R (.ok (.ret res)) s1) :
    ∀ (n : Nat) (s : Shared), GxAt X s4 H4 fp [S] pn (CsL S) W Qe a g A.in1 n s → codeAny (model X.prog X.w) A (.builtin "list.extend.loop" ⟨[.ref S, .ref a, res], []⟩) R s := by
  intro n
  induction n with
  | zero =>
    intro s G
    refine codeAny_builtin F.entry_extend_loop ?_
    rw [Around.under_plainId F.plain_extend_loop _]
    show wpAny _ A.in1 (pyNext (.ref a) >>= _) _ _ s
    refine wpAny_bind (next_M (A := A.in1) hp hgen hh hroom (by simpa using hSa) (by simpa using hSc) G (csm_l S) (fun v s1 i k ys y H m e => by cases e) fun s1 ys H qe b cs => ?_)
    obtain ⟨acc, c, e, r⟩ := cs
    exact wpAny_pure (hend s1 ys H acc c qe b e r)
  | succ n ih =>
    intro s G
    refine codeAny_builtin F.entry_extend_loop ?_
    rw [Around.under_plainId F.plain_extend_loop _]
    show wpAny _ A.in1 (pyNext (.ref a) >>= _) _ _ s
    refine wpAny_bind (next_M (A := A.in1) hp hgen hh hroom (by simpa using hSa) (by simpa using hSc) G (csm_l S) (fun v s1 i k ys y H m e rv hk w b cs kap => ?_) fun s1 ys H qe b cs => ?_)
    · obtain rfl : n = m := Nat.succ.inj e
      obtain ⟨acc, c, hS1, r⟩ := cs
      have hlen := hb _ _ _ _ w
      have hsz : acc.size + 1 ≤ sizeLine := by
        have e1 := r.length
        have e2 : acc.toList.length = acc.size := by simp
        rw [List.length_append] at hlen
        have : ([y] : List V).length = 1 := rfl
        omega
      show wpAny _ A.in1 (updateSeq S (·.push v) >>= _) _ _ _
      refine wpAny_bind ?_
      refine wpAny_updateSeq hS1 rfl (wpAny_pure ⟨plainId_quiet F.plain_extend_loop _, ?_⟩) (by omega) (by show (acc.push v).size ≤ sizeLine + 1; rw [Array.size_push]; omega)
      refine ih _ (kap _ rfl rfl (fun b' o hb' e' => (Heap.get?_update_other _ _ (fun z => hb' (by rw [← z]; exact List.mem_singleton.mpr rfl))).trans e') ?_)
      exact ⟨acc.push v, _, Heap.get?_update_self _ hS1 rfl, by rw [Array.toList_push]; exact r.append (.cons rv .nil)⟩
    · obtain ⟨acc, c, e, r⟩ := cs
      exact wpAny_pure (hend s1 ys H acc c qe b e r)
theorem collect_M {go : Obj} {n : Nat} {s : Shared} {Q : List Value → Shared → Prop} {E : Value → Shared → Prop} (hp : pn = [(a, go)]) (hgen : ∀ h : Heap, h.get? a = some go → h.IsGen a g) (hh : A.handled = none) (hroom : A.depth < recursionLimit)
    (hgo : s.heap.get? a = some go) (hl : s.heap.NoLimit)
    (hG : ∀ s7 : Shared, (∀ b o, s.heap.get? b = some o → s7.heap.get? b = some o) → s7.os = s.os → s7.gens = s.gens → CsL s.heap.objs.size [] s7.heap → GxAt X s4 H4 fp [s.heap.objs.size] pn (CsL s.heap.objs.size) W Qe a g A.in1 n s7)
    (hb : ∀ i k ys H, W i k ys H → ys.length ≤ sizeLine)
    (hQ : ∀ s1 ys H acc, Qe ys H → Bck X s4 H4 fp [s.heap.objs.size] pn H s1 → Vals ys acc → Q acc s1) : wpAny (model X.prog X.w) A (collect (.ref a)) Q E s := by
  have hSI : s.heap.objs.size ≠ a := Nat.ne_of_gt (Heap.lt_size hgo)
  have hcl : cStatics < s.heap.objs.size := let ⟨_, hn, _⟩ := hl; hn.lt
  have gty : ∀ {h : Heap}, (∀ b o, s.heap.get? b = some o → h.get? b = some o) → h.IsGen a g := fun {h} q => hgen h (q a go hgo)
  unfold collect
  refine wpAny_bind (wpAny_runValue (codeAny_builtin F.entry_proto_collect ?_))
  rw [Around.under_plainId F.plain_proto_collect _]
  show wpAny _ A.in1 (newList [] >>= fun l => again (.builtin "list.__iadd__" ⟨[l, .ref a], []⟩)) _ _ s
  refine wpAny_bind (wpAny_newObj_type ?_)
  refine wpAny_pure ⟨plainId_quiet F.plain_list_iadd _, codeAny_builtin F.entry_list_iadd ?_⟩
  rw [Around.under_plainId F.plain_list_iadd _]
  have k1 : ∀ b o, s.heap.get? b = some o → (s.heap.push { cls := .type "list", data := .seq ([] : List Value).toArray }).get? b = some o := fun b o e => Heap.get?_push_of_some _ e
  show wpAny _ A.in1 (Builtin.List.listExtendWith (.ref s.heap.objs.size) (.ref a) (.ref s.heap.objs.size)) _ _ _
  unfold Builtin.List.listExtendWith
  refine wpAny_bind (wpAny_typeOf (Heap.IsGen.typeIs (s := { s with heap := _ }) (gty k1)) ?_)
  have h1 : Builtin.List.listSameRef (.ref s.heap.objs.size) (.ref a) = false := by simp [Builtin.List.listSameRef, hSI]
  have h2 : (Value.type "generator" == Value.type "list") = false := by decide
  have h3 : (Value.type "generator" == Value.type "tuple") = false := by decide
  simp only [h1, h2, h3, Bool.or_false, Bool.false_eq_true, if_false]
  refine wpAny_bind (wpAny_pyIter_gen (s := { s with heap := _ }) (gty k1) ?_)
  refine wpAny_bind (wpAny_holding ?_)
  unfold Builtin.List.listLengthHint
  refine wpAny_bind (wpAny_specialOf (Heap.IsGen.typeIs (s := { s with heap := _ }) (gty k1)) F.gen_no_len ?_)
  show wpAny _ A.in1 (specialOf (Value.ref a) (Str.ofString "__length_hint__") >>= _) _ _ _
  refine wpAny_bind (wpAny_specialOf (Heap.IsGen.typeIs (s := { s with heap := _ }) (gty k1)) F.gen_no_hint ?_)
  refine wpAny_pure ?_
  show wpAny _ A.in1 (rule "list.extend.makes-room" >>= fun _ => Builtin.List.listTouch (.ref s.heap.objs.size) >>= fun _ =>
    again (.builtin "list.extend.loop" ⟨[.ref s.heap.objs.size, .ref a, .ref s.heap.objs.size], []⟩)) _ _ _
  refine wpAny_bind (wpAny_rule ?_)
  have hS₁ : (s.heap.push { cls := .type "list", data := .seq ([] : List Value).toArray }).get? s.heap.objs.size = some { cls := .type "list", data := .seq ([] : List Value).toArray } := Heap.get?_push_size _ rfl
  refine wpAny_bind ?_
  show wpAny _ A.in1 (updateSeq s.heap.objs.size (·.push .none) >>= fun _ => updateSeq s.heap.objs.size (·.pop)) _ _ _
  refine wpAny_bind (wpAny_updateSeq hS₁ rfl ?_)
  have hS₂ := Heap.get?_update_self (Obj.mapSeq (·.push Value.none)) hS₁ rfl
  refine wpAny_updateSeq hS₂ rfl ?_
  have hS₃ := Heap.get?_update_self (Obj.mapSeq (·.pop)) hS₂ rfl
  have oth : ∀ b o, b ≠ s.heap.objs.size → (s.heap.push { cls := .type "list", data := .seq ([] : List Value).toArray }).get? b = some o →
      (((s.heap.push { cls := .type "list", data := .seq ([] : List Value).toArray }).update s.heap.objs.size (Obj.mapSeq (·.push Value.none))).update s.heap.objs.size (Obj.mapSeq (·.pop))).get? b = some o :=
    fun b o hb e => (Heap.get?_update_other _ _ (Ne.symm hb)).trans ((Heap.get?_update_other _ _ (Ne.symm hb)).trans e)
  refine wpAny_pure ⟨plainId_quiet F.plain_extend_loop _, drain_M hp hgen hh hroom (Ne.symm hSI) (Nat.ne_of_lt hcl) hb (fun s1 ys H acc c qe b e r => ?_) n _ (hG _ (fun b o e => oth b o (Nat.ne_of_lt (Heap.lt_size e)) (k1 b o e)) rfl rfl ⟨#[], _, hS₃, .nil⟩)⟩
  show wpAny _ A (load s.heap.objs.size >>= _) _ _ s1
  exact wpAny_bind (wpAny_load e (wpAny_pure (hQ s1 ys H _ qe b r)))
theorem tuple_M {go : Obj} {n : Nat} {s : Shared} {Q : Value → Shared → Prop} {E : Value → Shared → Prop} (hp : pn = [(a, go)]) (hgen : ∀ h : Heap, h.get? a = some go → h.IsGen a g) (hh : A.handled = none) (hroom : A.depth < recursionLimit)
    (hgo : s.heap.get? a = some go) (hl : s.heap.NoLimit)
    (hG : ∀ s7 : Shared, (∀ b o, s.heap.get? b = some o → s7.heap.get? b = some o) → s7.os = s.os → s7.gens = s.gens → CsL s.heap.objs.size [] s7.heap → GxAt X s4 H4 fp [s.heap.objs.size] pn (CsL s.heap.objs.size) W Qe a g A.in1.in1.in1 n s7)
    (hb : ∀ i k ys H, W i k ys H → ys.length ≤ sizeLine) (hb2 : ∀ ys H, Qe ys H → ys.length ≤ sizeLine)
    (hQ : ∀ s1 ys H acc, Qe ys H → Bck X s4 H4 fp [s.heap.objs.size] pn H s1 → Vals ys acc → Q (.ref s1.heap.objs.size) { s1 with heap := s1.heap.push { cls := .type "tuple", data := .seq acc.toArray } }) :
    wpAny (model X.prog X.w) A (call (.type "tuple") [.ref a]) Q E s := by
  refine callType_codes (Q₁ := fun obj s₁ => s₁.TypeIs obj "tuple" ∧ Q obj s₁) F.called_tuple (F.typeCall_tuple_1 _) F.entry_object_init ?_ fun obj s₁ h₁ => ?_
  · refine codeAny_of_tree ?_
    show wpAny _ A.in1.in1 (do checkBuiltinCall "tuple.__new__" ⟨[.type "tuple", .ref a], []⟩; again (.builtin "tuple.__new__" ⟨[.type "tuple", .ref a], []⟩)) _ _ s
    refine wpAny_bind (wpAny_of_eq (F.newCall_tuple_1 _) (wpAny_pure ⟨plainId_quiet F.plain_tuple_new _, codeAny_builtin F.entry_tuple_new ?_⟩))
    rw [Around.under_plainId F.plain_tuple_new _]
    have hsub := sub_tuple_self
    have hinit := init_tuple_lookup
    have hmh := madeHere_tuple
    have hTI : s.TypeIs (.ref a) "generator" := Heap.IsGen.typeIs (hgen _ hgo)
    wp_walk using wpAny_typeOf hTI, collect_M (A := A.in1.in1) hp hgen hh hroom hgo hl hG hb
    intro s1 ys H acc qe b r
    have hsz : acc.toArray.size ≤ sizeLine := by
      have e1 := r.length
      have e2 := hb2 ys H qe
      rw [List.size_toArray]
      omega
    show wpAny _ _ (Builtin.Tuple.tupleExact acc.toArray >>= fun v => ret v) _ _ _
    unfold Builtin.Tuple.tupleExact
    refine wpAny_bind (wpAny_newObj_type ?_ hsz)
    exact wpAny_pure ⟨⟨_, Heap.get?_push_size _ rfl, rfl⟩, hQ s1 ys H acc qe b r⟩
  · exact ⟨h₁.1, F.args_object_init_2 obj _, object_init_meets F.called_tuple.init.lookup F.called_tuple.made (by decide) X.prog X.w A.in1 _ s₁ ⟨h₁.1, rfl, h₁.2⟩⟩
end
end Mi
set_option Elab.async false
set_option linter.all false
set_option maxRecDepth 100000
set_option maxHeartbeats 4000000
/-! Ng: any, all, tuple of a generator expression. -/
namespace Mi
open PySem PySem.Spec PyProof.Rows L2 GenW
section
variable {C : Cfg} {X : Cx} {Z0 Z : Zx} {Φ : Env} {cls : Nat → Value} {W : WX} {α β : Type}
variable {ρ : List Addr} {H H1 H4 : Hp} {μ : Mu} {σ' : Sl} {σ : L2.St} {Q : VK}
/-- the table of a code object has grown -/
theorem tab_ok {P : Addr} (hP : P ∈ Z.tb) (hq0 : Z.tq P = none) (m : MuOk Z ρ H1 μ) (t : GxR.Tabbed P H1 H4) : Ext ρ H1 ρ H4 ∧ MuOk Z ρ H4 μ := by
  obtain ⟨ps, hps, hts⟩ := m.tb P hP
  have ne : ∀ {b u}, H1 b = some u → (∀ qs, u ≠ .tbl qs) → b ≠ P := fun {b u} e n z => by
    rw [z, hps] at e
    exact n ps (Option.some.inj e).symm
  have x : Ext ρ H1 ρ H4 := ⟨List.prefix_refl _, fun _ h n => absurd h n, fun a o e _ n => (t.2 a (ne e n)).trans e, fun a o e => by
    by_cases z : a = P
    · obtain ⟨qs, hq, _⟩ := t.1
      exact ⟨_, by rw [z]; exact hq⟩
    · exact ⟨o, (t.2 a z).trans e⟩⟩
  have nρ : ∀ a ∈ ρ, a ≠ P := fun a ha z => m.tbn P hP (z ▸ ha)
  refine ⟨x, m.nd, m.len, fun a ha => ?_, fun i a d h1 h2 => (m.cell i a d h1 h2).ext x (t.2 a (nρ a (List.mem_of_getElem? h1))), fun P' hP' => ?_, m.tbn, fun a ha => ?_, m.exn, fun p hp => ?_, fun Q hQ q hq => (m.tq Q hQ q hq).ext x (t.2 Q fun z => by rw [z, hq0] at hq; cases hq)⟩
  · obtain ⟨o, e⟩ := m.live a ha
    exact x.live a o e
  · by_cases z : P' = P
    · rw [z]; exact t.1
    · exact TabG.ne (m.tb P' hP') (t.2 P' z)
  · obtain ⟨o, e⟩ := m.exl a ha
    exact x.live a o e
  · obtain ⟨e, n, tt⟩ := m.gl p hp
    exact ⟨(t.2 _ (ne e tt)).trans e, n, tt⟩
theorem Ext.withs0 (Z : Zx) : Z.withs [] = Z := rfl
/-- the run of the items left: WG i k ys H -/
def WG (Z : Zx) (ρ1 : List Addr) (H1 : Hp) (ds : List Mi.D) (P : List V → Nat → List Addr → Hp → Mu → Prop) : Nat → Nat → List V → Hp → Prop := fun i k ys H =>
  k = ds.length - i ∧ i ≤ ds.length ∧ ys.length ≤ i ∧ ∃ ρ2 μ2, Ext ρ1 H1 ρ2 H ∧ MuOk Z ρ2 H μ2 ∧ P ys i ρ2 H μ2
/-- turns, by the reading of an element's turn -/
theorem turnG_of {Al : List V → Prop} {P : List V → Nat → List Addr → Hp → Mu → Prop} {Qe : List V → Hp → Prop} {ds : List Mi.D} {ws : Wt} {J : L2.It} {t : Tg} {q : Eo} {e : E} {own : List Nat} {ρ0 ρ1 : List Addr} {H0 : Hp} (hown : own = tgS t) (so1 : SlOk Z ρ1 H1 σ' σ) (hJ : Wlk Z ρ0 H0 J ds ws) (x0 : Ext ρ0 H0 ρ1 H1)
    (hw : ∀ ys i ρ2 H μ2, Al ys → Ext ρ1 H1 ρ2 H → MuOk Z ρ2 H μ2 → P ys i ρ2 H μ2 → i ≤ ds.length → wOk ws μ2 = true)
    (hend : ∀ ys ρ2 H μ2, Al ys → ys.length ≤ ds.length → Ext ρ1 H1 ρ2 H → MuOk Z ρ2 H μ2 → P ys ds.length ρ2 H μ2 → Qe ys H)
    (hturn : ∀ ys i ρ2 H μ2 d, Al ys → ds[i]? = some d → MuOk Z ρ2 H μ2 → P ys i ρ2 H μ2 → ∃ o μ3, turnM t σ' (evq Φ q) (ev Φ e) d μ2 = .ok o μ3 ∧
      match o with
      | none => ∀ ρ3 H3, Ext ρ2 H ρ3 H3 → MuOk Z ρ3 H3 μ3 → P ys (i + 1) ρ3 H3 μ3
      | some y => ∀ ρ3 H3 v, Ext ρ2 H ρ3 H3 → MuOk Z ρ3 H3 μ3 → Rep Z ρ3 H3 y v → P (ys ++ [v]) (i + 1) ρ3 H3 μ3) :
    TurnG Al J (gM Z t) (tT Z W0 cls (evq Φ q)) (tE Z W0 cls (ev Φ e)) own σ (WG Z ρ1 H1 ds P) Qe := by
  subst hown
  rintro i k ys H hal ⟨rfl, hil, hyl, ρ2, μ2, x2, m2, p2⟩
  have hwk := hw ys i ρ2 H μ2 hal x2 m2 p2 hil
  obtain ⟨hgo, hstop⟩ := hJ [] i ρ2 H μ2 (by simp) (x0.trans x2) m2 hwk
  by_cases hi : i < ds.length
  · right
    have hd : ds[i]? = some ds[i] := List.getElem?_eq_getElem hi
    generalize ds[i] = d at hd
    obtain ⟨g1, g2⟩ := hgo d hd
    refine ⟨g1, fun x H3 hy => ?_⟩
    obtain ⟨ρ3, x3, m3, r3⟩ := g2 x H3 hy
    obtain ⟨o, μ3, hfo, hP⟩ := hturn ys i ρ2 H μ2 d hal hd m2 p2
    have hfo' := hfo
    unfold turnM at hfo'
    generalize hbt : bindT μ2 t d (wipeM σ' (tgS t)) = bo at hfo'
    cases bo with
    | none => cases hfo'
    | some σ4 =>
      simp only at hfo'
      refine ⟨ρ3, _, μ2, d, σ4, wipe_ok (so1.ext (x2.trans x3)) _, m3, r3, hbt, fun σ2 so2 ag => ⟨?_, ρ3, σ4, μ2, so2, m3, ?_⟩⟩
      · exact Agree.wipe (Agree.trans ag (agree_wipe σ _))
      · cases hq0 : evq Φ q σ4 μ2 with
        | exc c μ' => rw [hq0] at hfo'; cases hfo'
        | no => rw [hq0] at hfo'; cases hfo'
        | ok b μ4 =>
          rw [hq0] at hfo'
          simp only [Mi.R.bnd] at hfo'
          intro ρ4 H4 x4 m4
          cases b with
          | false =>
            cases hfo'
            exact ⟨_, by omega, rfl, hi, by omega, ρ4, _, (x2.trans x3).trans x4, m4, hP ρ4 H4 (x3.trans x4) m4⟩
          | true =>
            simp only [if_true] at hfo' ⊢
            refine ⟨ρ4, σ4, μ4, so2.ext x4, m4, ?_⟩
            cases he0 : ev Φ e σ4 μ4 with
            | exc c μ' => rw [he0] at hfo'; cases hfo'
            | no => rw [he0] at hfo'; cases hfo'
            | ok y μ5 =>
              rw [he0] at hfo'
              cases hfo'
              intro ρ5 H5 x5 m5 w r5
              exact ⟨_, by omega, rfl, hi, by simp; omega, ρ5, _, ((x2.trans x3).trans x4).trans x5, m5, hP ρ5 H5 w ((x3.trans x4).trans x5) m5 r5⟩
  · left
    have hi' : i = ds.length := by omega
    subst hi'
    exact ⟨hstop rfl, hend ys ρ2 H μ2 hal hyl x2 m2 p2⟩
end
end Mi
set_option Elab.async false
set_option linter.all false
set_option maxRecDepth 100000
set_option maxHeartbeats 4000000
/-! Nh: the three readings. -/
namespace Mi
open PySem PySem.Spec PyProof.Rows L2 GenW
section
variable {C : Cfg} {X : Cx} {Z0 Z : Zx} {Φ : Env} {cls : Nat → Value} {W : WX} {α β : Type}
variable {ρ : List Addr} {H H1 H4 : Hp} {μ : Mu} {σ' : Sl} {σ : L2.St} {Q : VK}
def RT (Q : VK) (Wp : Nat → Nat → List V → Hp → Prop) (Qe : List V → Hp → Prop) : Prop :=
  (∀ i k ys H, Wp i k ys H → ys.length ≤ sizeLine) ∧ ∀ ys H, Qe ys H → ys.length ≤ sizeLine ∧ ∀ l o, H l = none → o.dict = none → Q (.ref l) (upd H l (.frz o (.tup ys)))
def RA (b0 : Bool) (Q : VK) (Wp : Nat → Nat → List V → Hp → Prop) (Qe : List V → Hp → Prop) : Prop :=
  (∀ i k ys y H, Wp i k (ys ++ [y]) H → (∀ z ∈ ys, z = .bl (!b0)) → ∃ b, y = .bl b ∧ (b = b0 → Q (.bl b0) H)) ∧ ∀ ys H, Qe ys H → (∀ z ∈ ys, z = .bl (!b0)) → Q (.bl (!b0)) H
theorem gen_tup {P : Addr} {own : List Nat} {it : Mi.It} {t : Tg} {q : Eo} {e : E} (hP : P ∈ Z.tb) (hq0 : Z.tq P = none) (hown : own = tgS t) (h : tE Z W cls (ev Φ (.gen .tuple t it q e)) σ H Q) :
    tI Z W cls (evi Φ it) σ H fun J H1 => GxR.TabG H1 P ∧ ∀ H4, GxR.Tabbed P H1 H4 → ∃ Wp Qe m0, Wp 0 m0 [] H4 ∧ TurnG (fun _ => True) J (gM Z t) (tT Z W0 cls (evq Φ q)) (tE Z W0 cls (ev Φ e)) own σ Wp Qe ∧ RT Q Wp Qe := by
  obtain ⟨ρ, σ', μ, so, m, p⟩ := h
  unfold ev at p
  refine ⟨ρ, σ', μ, so, m, p.bnd.mono (fun pr ρ1 H1 μ1 e1 m1 q1 J hJ hlen => ⟨m1.tb P hP, fun H4 hT => ?_⟩) (fun _ _ _ _ _ _ h => h)⟩
  obtain ⟨ds, ws⟩ := pr
  simp only [genF] at q1 hJ hlen ⊢
  obtain ⟨x4, m4⟩ := tab_ok hP hq0 m1 hT
  have q4 := q1.at_ x4
  generalize hf : turnM t σ' (evq Φ q) (ev Φ e) = f at q4
  refine ⟨WG Z ρ1 H4 ds fun ys i ρ2 H2 μ2 => ∃ done, Reps Z ρ2 H2 done ys ∧ Pst Z ρ1 H4 (QD Z Q) (fun c _ H' _ => W (cls c) none σ H') ((mapR ws f (ds.drop i) μ2).calm.bnd fun rest μ => .ok (.tup true (done ++ rest)) μ),
    fun ys H2 => ys.length ≤ ds.length ∧ ∃ ρ2 μ2 done, Ext ρ1 H4 ρ2 H2 ∧ MuOk Z ρ2 H2 μ2 ∧ Reps Z ρ2 H2 done ys ∧ Pst Z ρ1 H4 (QD Z Q) (fun c _ H' _ => W (cls c) none σ H') (.ok (.tup true done) μ2), _,
    ⟨rfl, Nat.zero_le _, Nat.le_refl _, ρ1, μ1, .refl _ _, m4, [], .nil, q4⟩, ?_, fun i k ys H2 w => ?_, fun ys H2 w => ?_⟩
  · refine turnG_of hown ((so.ext e1).ext x4) hJ x4 (fun ys i ρ2 H2 μ2 _ x2 m2 ⟨done, rd, p2⟩ hi => ?_) (fun ys ρ2 H2 μ2 _ hl x2 m2 ⟨done, rd, p2⟩ => ?_) fun ys i ρ2 H2 μ2 d _ hd m2 ⟨done, rd, p2⟩ => ?_
    · by_cases hi' : i < ds.length
      · rw [List.drop_eq_getElem_cons hi'] at p2
        exact (mapR_head p2.ne).1
      · rw [List.drop_of_length_le (by omega)] at p2
        exact (mapR_end p2.ne).1
    · rw [List.drop_length] at p2
      rw [(mapR_end p2.ne).2, List.append_nil] at p2
      exact ⟨hl, ρ2, μ2, done, x2, m2, rd, p2⟩
    · obtain ⟨hi', e0⟩ := List.getElem?_eq_some_iff.mp hd
      rw [List.drop_eq_getElem_cons hi', e0] at p2
      obtain ⟨hw, o, μ3, hfo⟩ := mapR_head p2.ne
      refine ⟨o, μ3, by rw [hf]; exact hfo, ?_⟩
      cases o with
      | none =>
        intro ρ3 H3 x3 m3
        rw [mapR_none hw hfo] at p2
        exact ⟨done, rd.ext x3, p2⟩
      | some y =>
        intro ρ3 H3 v x3 m3 rv
        rw [mapR_some hw hfo] at p2
        exact ⟨done ++ [y], (rd.ext x3).append (.cons rv .nil), by simpa using p2⟩
  · obtain ⟨_, h1, h2, _⟩ := w
    have hlen : ds.length ≤ sizeLine := hlen
    omega
  · obtain ⟨h1, ρ2, μ2, done, x2, m2, rd, p2⟩ := w
    have hlen : ds.length ≤ sizeLine := hlen
    refine ⟨by omega, fun l o hl ho => ?_⟩
    have x := Ext.new1 (o := .frz o (.tup ys)) ρ2 hl
    obtain ⟨m5, o5⟩ := m2.new1 (o := .frz o (.tup ys)) hl
    exact p2 ρ2 _ (x2.trans x) m5 _ (.tup (.inl ⟨.inr ⟨o, upd_same⟩, o5⟩) (fun _ => .inl ⟨o, _, upd_same, ho, o5⟩) (rd.ext x))
/-! ### any, all -/
theorem anyR_head {b0 : Bool} {ws : Wt} {f : Mi.D → Mu → Mi.R (Option Mi.D)} {d : Mi.D} {r : List Mi.D} {k : Bool → Mu → Mi.R β} (h : ((anyR b0 ws f (d :: r) μ).calm.bnd k) ≠ .no) : wOk ws μ = true ∧ ∃ o μ', f d μ = .ok o μ' ∧
    ((o = none ∧ (anyR b0 ws f (d :: r) μ).calm.bnd k = (anyR b0 ws f r μ').calm.bnd k) ∨ (o = some (.bl b0) ∧ (anyR b0 ws f (d :: r) μ).calm.bnd k = k b0 μ') ∨ (o = some (.bl (!b0)) ∧ (anyR b0 ws f (d :: r) μ).calm.bnd k = (anyR b0 ws f r μ').calm.bnd k)) := by
  unfold anyR at h
  split at h
  · rename_i hw
    refine ⟨hw, ?_⟩
    cases hf : f d μ with
    | ok o μ' =>
      refine ⟨o, μ', rfl, ?_⟩
      rw [anyR, if_pos hw, hf]
      rw [hf] at h
      simp only [Mi.R.bnd] at h ⊢
      cases o with
      | none => exact .inl ⟨rfl, rfl⟩
      | some y =>
        cases y with
        | bl b =>
          by_cases hb : b = b0
          · subst hb
            refine .inr (.inl ⟨rfl, ?_⟩)
            simp only [if_true]
            rfl
          · refine .inr (.inr ⟨by cases b <;> cases b0 <;> first | rfl | exact absurd rfl hb, ?_⟩)
            simp only [if_neg hb]
        | _ => exact absurd rfl h
    | exc c μ' => rw [hf] at h; exact absurd rfl h
    | no => rw [hf] at h; exact absurd rfl h
  · exact absurd rfl h
theorem anyR_end {b0 : Bool} {ws : Wt} {f : Mi.D → Mu → Mi.R (Option Mi.D)} {k : Bool → Mu → Mi.R β} (h : ((anyR b0 ws f [] μ).calm.bnd k) ≠ .no) : wOk ws μ = true ∧ (anyR b0 ws f [] μ).calm.bnd k = k (!b0) μ := by
  unfold anyR at h ⊢
  split at h
  · rename_i hw
    rw [if_pos hw]
    exact ⟨hw, rfl⟩
  · exact absurd rfl h
theorem gen_any {b0 : Bool} {P : Addr} {own : List Nat} {it : Mi.It} {t : Tg} {q : Eo} {e : E} (hP : P ∈ Z.tb) (hq0 : Z.tq P = none) (hown : own = tgS t)
    (h : tE Z W cls (fun σ μ => (evi Φ it σ μ).bnd fun p μ => (anyR b0 p.2 (turnM t σ (evq Φ q) (ev Φ e)) p.1 μ).calm.bnd fun b μ => .ok (.bl b) μ) σ H Q) :
    tI Z W cls (evi Φ it) σ H fun J H1 => GxR.TabG H1 P ∧ ∀ H4, GxR.Tabbed P H1 H4 → ∃ Wp Qe m0, Wp 0 m0 [] H4 ∧ TurnG (fun ys => ∀ z ∈ ys, z = .bl (!b0)) J (gM Z t) (tT Z W0 cls (evq Φ q)) (tE Z W0 cls (ev Φ e)) own σ Wp Qe ∧ RA b0 Q Wp Qe := by
  obtain ⟨ρ, σ', μ, so, m, p⟩ := h
  refine ⟨ρ, σ', μ, so, m, p.bnd.mono (fun pr ρ1 H1 μ1 e1 m1 q1 J hJ hlen => ⟨m1.tb P hP, fun H4 hT => ?_⟩) (fun _ _ _ _ _ _ h => h)⟩
  obtain ⟨ds, ws⟩ := pr
  simp only at q1 hJ hlen ⊢
  obtain ⟨x4, m4⟩ := tab_ok hP hq0 m1 hT
  have q4 := q1.at_ x4
  generalize hf : turnM t σ' (evq Φ q) (ev Φ e) = f at q4
  have nb : ∀ b0 : Bool, (.bl b0 : V) ≠ .bl (!b0) := fun b0 z => by cases b0 <;> cases z
  refine ⟨WG Z ρ1 H4 ds fun ys i ρ2 H2 μ2 => ((∀ z ∈ ys, z = .bl (!b0)) ∧ Pst Z ρ1 H4 (QD Z Q) (fun c _ H' _ => W (cls c) none σ H') ((anyR b0 ws f (ds.drop i) μ2).calm.bnd fun b μ => .ok (.bl b) μ)) ∨
      (∃ zs, ys = zs ++ [.bl b0] ∧ Pst Z ρ1 H4 (QD Z Q) (fun c _ H' _ => W (cls c) none σ H') (.ok (.bl b0) μ2)),
    fun ys H2 => ∃ ρ2 μ2, Ext ρ1 H4 ρ2 H2 ∧ MuOk Z ρ2 H2 μ2 ∧ Pst Z ρ1 H4 (QD Z Q) (fun c _ H' _ => W (cls c) none σ H') (.ok (.bl (!b0)) μ2), _,
    ⟨rfl, Nat.zero_le _, Nat.le_refl _, ρ1, μ1, .refl _ _, m4, .inl ⟨fun _ h => (by cases h), q4⟩⟩, ?_, fun i k ys y H2 w hal => ?_, fun ys H2 ⟨ρ2, μ2, x2, m2, p2⟩ _ => p2 ρ2 H2 x2 m2 _ (.bl _)⟩
  · have alive : ∀ {ys : List V} {i : Nat} {μ2 : Mu}, (∀ z ∈ ys, z = .bl (!b0)) → (((∀ z ∈ ys, z = .bl (!b0)) ∧ Pst Z ρ1 H4 (QD Z Q) (fun c _ H' _ => W (cls c) none σ H') ((anyR b0 ws f (ds.drop i) μ2).calm.bnd fun b μ => .ok (.bl b) μ)) ∨
      (∃ zs, ys = zs ++ [.bl b0] ∧ Pst Z ρ1 H4 (QD Z Q) (fun c _ H' _ => W (cls c) none σ H') (.ok (.bl b0) μ2))) → Pst Z ρ1 H4 (QD Z Q) (fun c _ H' _ => W (cls c) none σ H') ((anyR b0 ws f (ds.drop i) μ2).calm.bnd fun b μ => .ok (.bl b) μ) := fun {ys i μ2} hal hh => by
      rcases hh with ⟨_, hh⟩ | ⟨zs, rfl, _⟩
      · exact hh
      · exact absurd (hal _ (List.mem_append_right _ List.mem_cons_self)) (nb b0)
    refine turnG_of hown ((so.ext e1).ext x4) hJ x4 (fun ys i ρ2 H2 μ2 hal x2 m2 p2 hi => ?_) (fun ys ρ2 H2 μ2 hal hl x2 m2 p2 => ?_) fun ys i ρ2 H2 μ2 d hal hd m2 p2 => ?_
    · have p2 := alive hal p2
      by_cases hi' : i < ds.length
      · rw [List.drop_eq_getElem_cons hi'] at p2
        exact (anyR_head p2.ne).1
      · rw [List.drop_of_length_le (by omega)] at p2
        exact (anyR_end p2.ne).1
    · have p2 := alive hal p2
      rw [List.drop_length] at p2
      rw [(anyR_end p2.ne).2] at p2
      exact ⟨ρ2, μ2, x2, m2, p2⟩
    · have p2 := alive hal p2
      obtain ⟨hi', e0⟩ := List.getElem?_eq_some_iff.mp hd
      rw [List.drop_eq_getElem_cons hi', e0] at p2
      obtain ⟨hw, o, μ3, hfo, hcase⟩ := anyR_head p2.ne
      refine ⟨o, μ3, by rw [hf]; exact hfo, ?_⟩
      rcases hcase with ⟨rfl, ee⟩ | ⟨rfl, ee⟩ | ⟨rfl, ee⟩
      · rw [ee] at p2
        exact fun ρ3 H3 x3 m3 => .inl ⟨hal, p2⟩
      · rw [ee] at p2
        intro ρ3 H3 v x3 m3 rv
        cases rv
        exact .inr ⟨ys, rfl, p2⟩
      · rw [ee] at p2
        intro ρ3 H3 v x3 m3 rv
        cases rv
        refine .inl ⟨fun z hz => ?_, p2⟩
        rcases List.mem_append.mp hz with hz | hz
        · exact hal z hz
        · exact List.mem_singleton.mp hz
  · obtain ⟨_, _, _, ρ2, μ2, x2, m2, p2⟩ := w
    rcases p2 with ⟨hall, _⟩ | ⟨zs, e2, p2⟩
    · have : y = .bl (!b0) := hall y (List.mem_append_right _ List.mem_cons_self)
      exact ⟨!b0, this, fun z => by cases b0 <;> cases z⟩
    · have : y = .bl b0 := by
        have := List.append_inj_right' e2 rfl
        exact List.singleton_inj.mp this
      exact ⟨b0, this, fun _ => p2 ρ2 H2 x2 m2 _ (.bl _)⟩
end
end Mi
set_option Elab.async false
set_option linter.all false
set_option maxRecDepth 100000
set_option maxHeartbeats 4000000
/-! Nk: the rules of any, all, tuple over a generator expression. -/
namespace Mi
open PySem PySem.Spec PyProof.Rows L2 GenW
section
variable {X : Cx} {pins : List (Addr × Obj)} {σ : L2.St} {H : Hp} {s : Shared}
theorem call_anyG {Q : VK} {E : Value → Shared → Prop} {s4 s5 : Shared} {H4 : Hp} {W : Nat → Nat → List V → Hp → Prop} {Qe : List V → Hp → Prop} {m0 : Nat} {u : Value} (hd : X.A.handled = none) (hr : X.A.depth < recursionLimit) (hf : X.A.frames = some X.stack)
    (G : GxMade (fun ys => ∀ z ∈ ys, z = .bl false) X pins σ s4 H4 W Qe m0 u s5) (R : RA true Q W Qe) : wpAny (model X.prog X.w) X.A (call (.builtin "any") [u]) (EP X pins σ Q) E s5 := by
  obtain ⟨a, g, go, fp, rfl, hgen, hgo, ha2, hl, hb, hos, I, f, hk, at_⟩ := G.at_
  refine call_function_tree F.kind_any F.plain_any F.entry_any (F.args_any1 _) ?_
  unfold Builtin.«any»
  refine wpAny_bind (m := oneArg "any" _) (wpAny_pure ?_)
  refine wpAny_bind (wpAny_pyIter_gen (hgen _ hgo) ?_)
  refine wpAny_pure ⟨plainId_quiet F.plain_any_loop _, any_M (X := X) rfl hgen hd hr (fun s1 i k ys y H w b hal => ?_) (fun s1 ys H qe b hal => ?_) (m0 + 1) s5 (at_ X.A.in1 [] (CsB false) s5 (csm_b false) (fun _ _ h => h) hd (Nat.le_add_right _ 2) (by show X.A.units + 1 ≤ _; omega) hf (fun _ h => by cases h) (fun _ _ e => e) rfl rfl fun _ h => by cases h)⟩
  · obtain ⟨bb, e, q⟩ := R.1 i k ys y H w hal
    exact ⟨bb, e, fun hbb => ⟨.bl true, H, b.inv I f, rfl, q hbb⟩⟩
  · exact ⟨.bl false, H, b.inv I f, rfl, R.2 ys H qe hal⟩
theorem call_allG {Q : VK} {E : Value → Shared → Prop} {s4 s5 : Shared} {H4 : Hp} {W : Nat → Nat → List V → Hp → Prop} {Qe : List V → Hp → Prop} {m0 : Nat} {u : Value} (hd : X.A.handled = none) (hr : X.A.depth < recursionLimit) (hf : X.A.frames = some X.stack)
    (G : GxMade (fun ys => ∀ z ∈ ys, z = .bl true) X pins σ s4 H4 W Qe m0 u s5) (R : RA false Q W Qe) : wpAny (model X.prog X.w) X.A (call (.builtin "all") [u]) (EP X pins σ Q) E s5 := by
  obtain ⟨a, g, go, fp, rfl, hgen, hgo, ha2, hl, hb, hos, I, f, hk, at_⟩ := G.at_
  refine call_function_tree F.kind_all F.plain_all F.entry_all (F.args_all1 _) ?_
  unfold Builtin.«all»
  refine wpAny_bind (m := oneArg "all" _) (wpAny_pure ?_)
  refine wpAny_bind (wpAny_pyIter_gen (hgen _ hgo) ?_)
  refine wpAny_pure ⟨plainId_quiet F.plain_all_loop _, all_M (X := X) rfl hgen hd hr (fun s1 i k ys y H w b hal => ?_) (fun s1 ys H qe b hal => ?_) (m0 + 1) s5 (at_ X.A.in1 [] (CsB true) s5 (csm_b true) (fun _ _ h => h) hd (Nat.le_add_right _ 2) (by show X.A.units + 1 ≤ _; omega) hf (fun _ h => by cases h) (fun _ _ e => e) rfl rfl fun _ h => by cases h)⟩
  · obtain ⟨bb, e, q⟩ := R.1 i k ys y H w hal
    exact ⟨bb, e, fun hbb => ⟨.bl false, H, b.inv I f, rfl, q hbb⟩⟩
  · exact ⟨.bl true, H, b.inv I f, rfl, R.2 ys H qe hal⟩
theorem call_tupG {Q : VK} {E : Value → Shared → Prop} {s4 s5 : Shared} {H4 : Hp} {W : Nat → Nat → List V → Hp → Prop} {Qe : List V → Hp → Prop} {m0 : Nat} {u : Value} (hd : X.A.handled = none) (hr : X.A.depth < recursionLimit) (hf : X.A.frames = some X.stack)
    (G : GxMade (fun _ => True) X pins σ s4 H4 W Qe m0 u s5) (R : RT Q W Qe) : wpAny (model X.prog X.w) X.A (call (.type "tuple") [u]) (EP X pins σ Q) E s5 := by
  obtain ⟨a, g, go, fp, rfl, hgen, hgo, ha2, hl, hb, hos, I, f, hk, at_⟩ := G.at_
  refine tuple_M (X := X) (A := X.A) (n := m0 + 1) rfl hgen hd hr hgo hl (fun s7 h1 h2 h3 h4 => at_ X.A.in1.in1.in1 [s5.heap.objs.size] (CsL s5.heap.objs.size) s7 (csm_l _) (fun _ _ _ => trivial) hd (Nat.le_add_right _ 2) (by show X.A.units + 1 + 1 + 1 ≤ _; omega) hf (fun b hb => by rw [List.mem_singleton.mp hb]; exact Nat.le_refl _) h1 h2 h3 h4) R.1 (fun ys H qe => (R.2 ys H qe).1) fun s1 ys H acc qe b r => ?_
  have I1 := b.inv I f
  obtain ⟨hlen, q⟩ := R.2 ys H qe
  have hn : H s1.heap.objs.size = none := I1.hok.fresh (Nat.le_refl _)
  have k : ∀ b o, s1.heap.get? b = some o → (s1.heap.push { cls := .type "tuple", data := .seq acc.toArray }).get? b = some o := fun b o e => Heap.get?_push_of_some _ e
  have I2 : Inv X pins σ (upd H s1.heap.objs.size (.frz { cls := .type "tuple", data := .seq acc.toArray } (.tup ys))) { s1 with heap := s1.heap.push { cls := .type "tuple", data := .seq acc.toArray } } :=
    I1.laid (t' := s1.toks) k (Nat.le_refl _) ⟨Heap.get?_push_size _ rfl, hlen, acc, r, ⟨_, Heap.get?_push_size _ rfl, rfl, _, rfl⟩⟩
  exact ⟨.ref _, _, I2, rfl, q _ _ hn rfl⟩
end
section
variable {C : Cfg} {X : Cx} {Z0 Z : Zx} {Φ : Env} {cls : Nat → Value} {W : WX}
theorem m_gen (S : Su C X Z0 Z Φ cls W) (hd : C.d = 1) (g : GF) {elt tg iter : Expr} {ifs : List Expr} {scope : Scope} {own : List (Str × Nat)} {it : Mi.It} {t : Tg} {q : Eo} {e : E} {p pos gpos : Pos} {x : Str} (hx : x = (match g with | .any => "any" | .all => "all" | .tuple => "tuple"))
    (hgl : Gl X x) (hi : PI X tg iter (tI Z W cls (evi Φ it))) (ok : BlkOk X.N X.env.scope scope own) (nc : ∀ y ∈ scope.names, y.2 ≠ .cell) (co : scope.isCoroutine = false) (dot : scope.names.lookup (".0" : Str) = some NameKind.local) (hown : own.map (·.2) = tgS t) (hs : ∀ v, genFold iter X.env v = pure v)
    (pg : ∀ (s : Shared) (H : Hp) (C : Addr) (code : Value) (Ag : Around) (fp : List Addr) (pn : List (Addr × Obj)), Near X.A Ag → PG (gxC X s H (gxEnv X scope C code) Ag fp pn) tg (gM Z t))
    (pt : ∀ (s : Shared) (H : Hp) (C : Addr) (code : Value) (Ag : Around) (fp : List Addr) (pn : List (Addr × Obj)), Near X.A Ag → PTs (gxC X s H (gxEnv X scope C code) Ag fp pn) ifs (tT Z W0 cls (evq Φ q)))
    (pe : ∀ (s : Shared) (H : Hp) (C : Addr) (code : Value) (Ag : Around) (fp : List Addr) (pn : List (Addr × Obj)), Near X.A Ag → PE (gxC X s H (gxEnv X scope C code) Ag fp pn) elt (tE Z W0 cls (ev Φ e))) :
    PE X (.Call (.Name x p) [.GeneratorExp elt [⟨tg, iter, ifs, 0⟩] scope gpos] [] pos) (tE Z W cls (ev Φ (.gen g t it q e))) := by
  obtain ⟨c, P, hcode, TB, hP0, hq00⟩ := S.cd (by omega)
  have hq0 : Z.tq P = none := by obtain ⟨ex, rfl⟩ := S.zp; exact hq00
  have hP : P ∈ Z.tb := by obtain ⟨ex, rfl⟩ := S.zp; exact hP0
  have hr : X.A.depth < recursionLimit := by have := S.dp; omega
  refine ⟨fun pins s σ H Q I h => ?_⟩
  have hdl : X.A.handled = none := I.ok.hd S.calm
  have hfr : X.A.frames = some X.stack := I.ok.frames
  cases g with
  | any =>
    subst hx
    refine wpAny_Call_Name_kw (ld_blt I hgl (S.bl _ (by decide)) (show bootBuiltins "any" = some (.builtin "any") by decide +kernel) ?_)
    refine PyProof.Rows.callWith_builtin1 ?_ rfl rfl
    show wpAny _ _ (spliced ((false, eval (.GeneratorExp elt [⟨tg, iter, ifs, 0⟩] scope gpos) X.env) :: backTo pos (starEach [] X.env))) _ _ s
    refine Calls.spliced_cons (gx_make (R := RA true Q) S.calm hr TB hcode S.nd ok nc co dot hi hs pg pt pe I (gen_any hP hq0 hown h) fun u s4 s5 H4 W Qe m0 G R => ?_)
    refine Calls.spliced_nil ?_
    exact call_anyG hdl hr hfr G R
  | all =>
    subst hx
    refine wpAny_Call_Name_kw (ld_blt I hgl (S.bl _ (by decide)) (show bootBuiltins "all" = some (.builtin "all") by decide +kernel) ?_)
    refine PyProof.Rows.callWith_builtin1 ?_ rfl rfl
    show wpAny _ _ (spliced ((false, eval (.GeneratorExp elt [⟨tg, iter, ifs, 0⟩] scope gpos) X.env) :: backTo pos (starEach [] X.env))) _ _ s
    refine Calls.spliced_cons (gx_make (R := RA false Q) S.calm hr TB hcode S.nd ok nc co dot hi hs pg pt pe I (gen_any hP hq0 hown h) fun u s4 s5 H4 W Qe m0 G R => ?_)
    refine Calls.spliced_nil ?_
    exact call_allG hdl hr hfr G R
  | tuple =>
    subst hx
    refine wpAny_Call_Name_kw (ld_blt I hgl (S.bl _ (by decide)) (show bootBuiltins "tuple" = some (.type "tuple") by decide +kernel) ?_)
    refine PyProof.Rows.callWith_type1 ?_ rfl rfl
    show wpAny _ _ (spliced ((false, eval (.GeneratorExp elt [⟨tg, iter, ifs, 0⟩] scope gpos) X.env) :: backTo pos (starEach [] X.env))) _ _ s
    refine Calls.spliced_cons (gx_make (R := RT Q) S.calm hr TB hcode S.nd ok nc co dot hi hs pg pt pe I (gen_tup hP hq0 hown h) fun u s4 s5 H4 W Qe m0 G R => ?_)
    refine Calls.spliced_nil ?_
    exact call_tupG hdl hr hfr G R
end
end Mi
set_option Elab.async false
set_option linter.all false
set_option maxRecDepth 100000
set_option maxHeartbeats 4000000
/-! Nm: lambdas without parameters and captured names: made, called. -/
namespace Mi
open PySem PySem.Spec PyProof.Rows L2 LamX
theorem clo_nil (cells : List (Str × Addr)) : ∀ (names : List (Str × NameKind)), (∀ y ∈ names, y.2 ≠ .free) → cloFrom cells names [] = []
  | [], _ => rfl
  | (n, k) :: r, h => by
    unfold cloFrom
    rw [if_neg (by
      intro z
      exact h (n, k) List.mem_cons_self (by simpa using z))]
    exact clo_nil cells r fun y hy => h y (List.mem_cons_of_mem _ hy)
section
variable {X : Cx} {pins : List (Addr × Obj)} {σ : L2.St} {H : Hp} {s : Shared}
variable {chk : Arguments → Expr → Scope → Prop}
theorem lamF_ok {q : Str} {params : Arguments} {body : Expr} {scope : Scope} {f c : Addr} {P : Program} {w : World} {H' : Hp} {h : Heap} {pm ctv : Value} (hk : chk params body scope) (e : h.get? f = some (PySem.W.kla_obj "<lambda>" q params body scope [] pm c ctv)) : ObjOk P w H' h f (LamG chk q f c) :=
  ⟨⟨params, body, scope, pm, ctv, hk, e⟩, ⟨_, e⟩, fun h1 h2 ⟨pa, bo, sc, pm', ctv', hk', e'⟩ k => ⟨pa, bo, sc, pm', ctv', hk', k _ e'⟩⟩
theorem lamF_ne {q : Str} {f c : Addr} (ps : Array Value) : LamG chk q f c ≠ .tbl ps := fun z => by
  unfold LamG at z
  cases z
theorem lam_mk {R : Addr → Prop} {c P : Addr} {q : Str} {ps : Array Value} {params : Arguments} {body : Expr} {scope : Scope} {pos : Pos} {E : Value → Shared → Prop} {Q : Value → Shared → Prop} (I : Inv X pins σ H s) (TB : GxR.TabB X.base X.mg c P) (hcode : X.env.code = .ref c) (hq : X.env.qual ++ "<lambda>" = q)
    (hP : H P = some (.tbl ps)) (ht : TriplesOk ps.toList) (ha : ∀ (pos : Pos) (cv : Value), codeAmong pos ps.toList = some cv → ∃ c, cv = .ref c ∧ H c = some (CodeO c q) ∧ R c) (hdef : defaultsOf params X.env = ([], [])) (L : LamC scope) (hk : chk params body scope)
    (h1 : ∀ (f c' : Addr) (more : Array Value) (s' : Shared), H f = none → H c' = none → f ≠ c' → f ≠ P → Inv X pins σ (upd (upd (upd H P (.tbl (ps ++ more))) c' (CodeO c' q)) f (LamG chk q f c')) s' → TriplesOk (ps ++ more).toList →
      (∀ p' cv, codeAmong p' (ps ++ more).toList = some cv → codeAmong p' ps.toList = some cv ∨ cv = .ref c') → Q (.ref f) s')
    (h2 : ∀ (f c' : Addr) (s' : Shared), H f = none → H c' = some (CodeO c' q) → R c' → Inv X pins σ (upd H f (LamG chk q f c')) s' → Q (.ref f) s') :
    wpAny (model X.prog X.w) X.A (eval (.Lambda params body scope pos) X.env) Q E s := by
  have hfree : ∀ y ∈ scope.names, y.2 = .free → ∃ c, X.env.cells.lookup y.1 = some c := fun y hy e => absurd e (L.own y hy).2.2
  have hcl : cloFrom X.env.cells scope.names [] = [] := clo_nil _ _ fun y hy => (L.own y hy).2.2
  refine PySem.W.kla_eval hdef ?_
  have bP : s.heap.BuiltinsAt X.mg P := TB.bm.keeps I.bk
  have hP' : s.heap.get? P = some { cls := .none, data := .fields ps } := I.hok P _ hP
  cases hc : codeAmong pos ps.toList with
  | none =>
    refine PySem.W.kla_makeFunction (mg := X.mg) (c := c) (P := P) (ps := ps) (closure_ok hfree) I.ok.glob (I.mod.glob.keeps I.bk) hcode (TB.code.keeps I.bk) hP' ht hc TB.gP bP fun c' ctv h' tk hx hge hlt hrec htb => ?_
    rw [hcl, hq]
    obtain ⟨c2, oc, vs, t, e2, hoc, hd, hv⟩ := hrec
    cases e2
    rw [hq] at hv
    have hsz : s.heap.objs.size ≤ h'.objs.size := Nat.le_trans hge (Nat.le_of_lt hlt)
    have I1 := inv_table (t' := tk) (more := #[rawInt pos.line, rawInt pos.col, .ref c']) (h' := h') I hP (fun b o hb e => hx b o hb e) htb hge ⟨oc, vs, t, hoc, hd, hv⟩
    have n1 : h'.objs.size ≠ c' := Nat.ne_of_gt hlt
    have n2 : h'.objs.size ≠ P := Nat.ne_of_gt (Nat.lt_of_lt_of_le (Heap.lt_size hP') hsz)
    have I2 := I1.laid (a := h'.objs.size) (o := LamG chk q h'.objs.size c') (h' := h'.push (PySem.W.kla_obj "<lambda>" q params body scope [] ((X.mg "__name__").getD .none) c' ctv)) (t' := tk) (fun b o e => Heap.get?_push_of_some _ e) (Nat.le_refl _) (lamF_ok hk (Heap.get?_push_size _ rfl))
    have eL : (ps ++ #[rawInt pos.line, rawInt pos.col, .ref c']).toList = ps.toList ++ [rawInt pos.line, rawInt pos.col, .ref c'] := by simp
    refine h1 h'.objs.size c' _ _ (I.hok.fresh hsz) (I.hok.fresh hge) n1 n2 I2 (by rw [eL]; exact PySem.TriplesOk_snoc _ _ _ _ ht) fun p' cv hcv => ?_
    rw [eL] at hcv
    exact among_app _ ht hcv
  | some cv =>
    obtain ⟨c', e, hco, hR⟩ := ha pos cv hc
    subst e
    refine PySem.W.kla_makeFunctionHit (mg := X.mg) (c := c) (P := P) (ps := ps) (closure_ok hfree) I.ok.glob (I.mod.glob.keeps I.bk) hcode (TB.code.keeps I.bk) hP' ht hc bP fun ctv h' tk hx hsz => ?_
    rw [hcl, hq]
    have I1 : Inv X pins σ H { s with heap := h', toks := tk } := I.kept hx
    have I2 := I1.laid (a := h'.objs.size) (o := LamG chk q h'.objs.size c') (h' := h'.push (PySem.W.kla_obj "<lambda>" q params body scope [] ((X.mg "__name__").getD .none) c' ctv)) (t' := tk) (fun b o e => Heap.get?_push_of_some _ e) (Nat.le_refl _) (lamF_ok hk (Heap.get?_push_size _ rfl))
    exact h2 h'.objs.size c' _ (I.hok.fresh hsz) hco hR I2
end
section
variable {C : Cfg} {X : Cx} {Z0 Z : Zx} {Φ : Env} {cls : Nat → Value} {W : WX}
variable {ρ : List Addr} {H : Hp} {μ : Mu}
theorem m_lam {chk : Arguments → Expr → Scope → Prop} (S : Su C X Z0 Z Φ cls W) {c P : Addr} {q : Str} {j : Nat} {params : Arguments} {body : Expr} {scope : Scope} {pos : Pos} (hcode : X.env.code = .ref c) (TB : GxR.TabB X.base X.mg c P) (hq : X.env.qual ++ "<lambda>" = q) (hP0 : P ∈ Z0.tb) (htq : Z0.tq P = some q)
    (hfo : ∀ a c, Z0.fo j a c = LamG chk q a c) (hco : ∀ c, Z0.co j c = CodeO c q) (hdef : defaultsOf params X.env = ([], [])) (L : LamC scope) (hk : chk params body scope) : PE X (.Lambda params body scope pos) (tE Z W cls (ev Φ (.lam j))) := by
  obtain ⟨ex, rfl⟩ := S.zp
  generalize hZ : ({ Z0 with ex := ex } : Zx) = Z
  have hP : P ∈ Z.tb := by rw [← hZ]; exact hP0
  have tq : Z.tq P = some q := by rw [← hZ]; exact htq
  have fo : ∀ a c, Z.fo j a c = LamG chk q a c := by rw [← hZ]; exact hfo
  have co : ∀ c, Z.co j c = CodeO c q := by rw [← hZ]; exact hco
  refine ⟨fun pins s σ H Q I h => ?_⟩
  obtain ⟨ρ, σ', μ, so, m, p⟩ := h
  unfold ev at p
  obtain ⟨ps, hps, hts⟩ := m.tb P hP
  have ta := m.tq P hP q tq ps hps
  refine lam_mk I TB hcode hq hps hts ta hdef L hk (fun f c' more s' nf nc hfc hfP I' ht' hmore => ?_) fun f c' s' nf hc hR I' => ?_
  · have nP : c' ≠ P := fun z => by rw [z, hps] at nc; cases nc
    obtain ⟨m1, o1⟩ := m.new1 (o := CodeO c' q) nc
    have x1 := Ext.new1 (o := CodeO c' q) ρ nc
    have e1 : upd (upd H P (.tbl (ps ++ more))) c' (CodeO c' q) = upd (upd H c' (CodeO c' q)) P (.tbl (ps ++ more)) := by
      funext b
      by_cases hb : b = c'
      · rw [hb, upd_same, upd_ne nP, upd_same]
      · rw [upd_ne hb]
        by_cases hb2 : b = P
        · rw [hb2, upd_same, upd_same]
        · rw [upd_ne hb2, upd_ne hb2, upd_ne hb]
    rw [e1] at I'
    have hP1 : upd H c' (CodeO c' q) P = some (.tbl ps) := by rw [upd_ne (Ne.symm nP)]; exact hps
    have T : GxR.Tabbed P (upd H c' (CodeO c' q)) (upd (upd H c' (CodeO c' q)) P (.tbl (ps ++ more))) := ⟨⟨_, upd_same, ht'⟩, fun b hb => upd_ne hb⟩
    have x2 : Ext ρ (upd H c' (CodeO c' q)) ρ (upd (upd H c' (CodeO c' q)) P (.tbl (ps ++ more))) := Ext.tabbed hP1 T
    have m2 : MuOk Z ρ (upd (upd H c' (CodeO c' q)) P (.tbl (ps ++ more))) μ := by
      refine ⟨m1.nd, m1.len, fun a ha => ?_, fun i a d h1 h2 => ?_, fun Q hQ => ?_, m1.tbn, fun a ha => ?_, m1.exn, fun p hp => ?_, fun Q hQ q' hq' => ?_⟩
      · obtain ⟨u, e⟩ := m1.live a ha
        exact x2.live a u e
      · exact (m1.cell i a d h1 h2).ext x2 (T.2 a fun z => m1.tbn P hP (z ▸ List.mem_of_getElem? h1))
      · by_cases z : Q = P
        · rw [z]; exact T.1
        · exact TabG.ne (m1.tb Q hQ) (T.2 Q z)
      · obtain ⟨u, e⟩ := m1.exl a ha
        exact x2.live a u e
      · obtain ⟨e, n, t⟩ := m1.gl p hp
        exact ⟨x2.keep _ _ e n.1 t, n, t⟩
      · by_cases z : Q = P
        · rw [z] at hq' ⊢
          rw [tq] at hq'
          cases hq'
          intro ps' hps' p' cv hcv
          rw [upd_same] at hps'
          cases hps'
          rcases hmore p' cv hcv with hold | hnew
          · obtain ⟨c0, a1, a2, a3⟩ := ta p' cv hold
            refine ⟨c0, a1, ?_, a3⟩
            rw [upd_ne (fun y => by rw [y, hps] at a2; exact codeO_ne ps (Option.some.inj a2).symm), upd_ne (ne_of_none a2 nc)]
            exact a2
          · exact ⟨c', hnew, by rw [upd_ne nP, upd_same], o1⟩
        · exact (m1.tq Q hQ q' hq').ext x2 (T.2 Q z)
    have nf2 : upd (upd H c' (CodeO c' q)) P (.tbl (ps ++ more)) f = none := by rw [upd_ne hfP, upd_ne hfc]; exact nf
    obtain ⟨m3, o3⟩ := m2.new1 (o := LamG chk q f c') nf2
    have x3 := Ext.new1 (o := LamG chk q f c') ρ nf2
    refine ⟨.ref f, _, I', rfl, p ρ _ ((x1.trans x2).trans x3) m3 _ (.clo (c := c') ?_ ?_ o3 o1 ?_ ?_)⟩
    · rw [fo]; exact upd_same
    · rw [co, upd_ne (Ne.symm hfc), upd_ne nP]; exact upd_same
    · rw [fo]; exact lamF_ne
    · rw [co]; exact codeO_ne
  · obtain ⟨m3, o3⟩ := m.new1 (o := LamG chk q f c') nf
    have x3 := Ext.new1 (o := LamG chk q f c') ρ nf
    refine ⟨.ref f, _, I', rfl, p ρ _ x3 m3 _ (.clo (c := c') ?_ ?_ o3 hR ?_ ?_)⟩
    · rw [fo]; exact upd_same
    · rw [co, upd_ne (ne_of_none hc nf)]; exact hc
    · rw [fo]; exact lamF_ne
    · rw [co]; exact codeO_ne
end
end Mi
set_option Elab.async false
set_option linter.all false
set_option maxRecDepth 100000
set_option maxHeartbeats 4000000
/-! No: a closed lambda called by a name that holds it. -/
namespace Mi
open PySem PySem.Spec PyProof.Rows L2 LamX
abbrev cloEnv (q : Str) (scope : Scope) (L f c' : Addr) : PySem.Env := PySem.W.envX q scope L f (.ref c') []
/-- the context of its body, entered at s from the frames outer, with the names N -/
def cloCx (X : Cx) (A : Around) (outer : List PySem.Env) (s : Shared) (H : Hp) (E : XK) (N : List Str) (q : Str) (scope : Scope) (f c' : Addr) : Cx where
  prog := X.prog
  w := X.w
  K := X.K
  mg := X.mg
  base := X.base
  A := A.deeper (cloEnv q scope s.heap.objs.size f c')
  N := N
  s_0 := s
  H_0 := H
  env := cloEnv q scope s.heap.objs.size f c'
  outer := outer
  stack := cloEnv q scope s.heap.objs.size f c' :: outer
  ex := []
  fn := fun _ => false
  calm := true
  pn := []
  xe := fun e s' => wpAny (model X.prog X.w) (A.deeper (cloEnv q scope s.heap.objs.size f c')) (leaving (cloEnv q scope s.heap.objs.size f c') e) (fun _ s'' => L2.CX X.prog X.w outer H s E e s'') (fun e' s'' => L2.CX X.prog X.w outer H s E e' s'') s'
section
variable {X : Cx} {pins : List (Addr × Obj)} {σ : L2.St} {H HZ : Hp} {s s1 : Shared}
theorem clo_start {A : Around} {outer : List PySem.Env} {E : XK} {N : List Str} {q : Str} {scope : Scope} {f c' : Addr} {h₁ : Heap} {tk : Nat} (L : LamC scope) (e0 : Env0 X.prog X.w X.K X.mg X.base A outer s1 HZ) (hd : A.handled = none)
    (hns : h₁.Ns s1.heap.objs.size fun y => ([] : List (Str × Value)).reverse.lookup y) (kp : ∀ b o, s1.heap.get? b = some o → h₁.get? b = some o) :
    Inv (cloCx X A outer s1 HZ E N q scope f c') [] (List.replicate N.length none) HZ { s1 with heap := h₁, toks := tk } := by
  have noA : ∀ b : Addr, b ∉ (cloCx X A outer s1 HZ E N q scope f c').ex := fun b z => absurd (show b ∈ ([] : List Addr) from z) (by simp)
  have noC : ∀ (y : Str) (c : Addr), (cloCx X A outer s1 HZ E N q scope f c').env.cells.lookup y = some c → False := fun y c e => by
    have e : ([] : List (Str × Addr)).lookup y = some c := e
    cases e
  refine ⟨⟨e0.mod, L.kind, rfl, rfl, Nat.le_refl _, fun y z c e1 e2 => (noC y c e1).elim, fun y hy => ?_, fun y c z _ => ?_, fun _ => hd, Around.frames_deeper e0.frames, .inr ⟨rfl, rfl⟩, fun b z => absurd z (noA b), e0.bs, e0.bsz, fun b _ _ => noA b,
      fun b z => absurd z (noA b), e0.funs, e0.frf⟩,
    rfl, e0.bare, Un.kept kp, ⟨_, hns, fun i y v e1 e2 e3 => ?_⟩, fun y c e => (noC y c e).elim, e0.hok.fresh (Nat.le_refl _), fun y c e => (noC y c e).elim, fun q hq => absurd (show q ∈ ([] : List (Addr × Obj)) ++ [] from hq) (by simp), e0.hok.kept kp, List.length_replicate⟩
  · have hy : scope.names.lookup y = some .cell ∨ scope.names.lookup y = some .free := hy
    rcases hy with hy | hy
    · exact absurd rfl (L.own _ (PySem.mem_of_lookup hy)).2.1
    · exact absurd rfl (L.own _ (PySem.mem_of_lookup hy)).2.2
  · have z : false = true := z
    cases z
  · rw [List.getElem?_replicate] at e2
    split at e2 <;> cases e2
/-- a() -/
theorem pe_clo {chk : Arguments → Expr → Scope → Prop} {q : Str} {i k : Nat} {a : Str} {W : WX} {N : List Str} {tb : XK → TE} {p1 p2 : Pos} (tk : Takes X W) (hr : Room (k + 1) X.A) (hN : X.N[i]? = some a) (hv : Vis X.env.scope a) (hd : (a == ("__debug__" : Str)) = false) (hcd : (a == ("__classdict__" : Str)) = false)
    (hchk : ∀ params body scope, chk params body scope → LamC scope ∧ ∀ (q : Str) (cl : List (Str × Addr)) (pm cv ctv : Value), bindArgs (PySem.W.kla_fn "<lambda>" q params body scope cl pm cv ctv) ⟨[], []⟩ = pure [])
    (hbody : ∀ params body scope, chk params body scope → ∀ (A : Around) (outer : List PySem.Env) (s : Shared) (H : Hp) (E : XK) (f c' : Addr), A.handled = none → Room k (A.deeper (cloEnv q scope s.heap.objs.size f c')) → A = X.A → PE (cloCx X A outer s H E N q scope f c') body (tb E)) :
    PE X (.Call (.Name a p1) [] [] p2) (fun σ H Q => ∃ (f c' : Addr) (E : XK), σ[i]? = some (some (.ref f)) ∧ H f = some (LamG chk q f c') ∧ H c' = some (CodeO c' q) ∧ (∀ cls d H', E cls d H' → W cls d σ H') ∧ tb E (List.replicate N.length none) H Q) := by
  refine ⟨fun pins s σ H Q I h => ?_⟩
  obtain ⟨f, c', E, hs, hf, hc, hW, ht⟩ := h
  refine wpAny_Call_Name_kw (thn ((pe_var (pos := p1) (i := i) hN hv hd hcd).run pins s σ H (fun v H1 => v = .ref f ∧ H1 = H) I ⟨.ref f, hs, rfl, rfl⟩) fun u s1 ⟨v, H1, I1, r1, q1⟩ => ?_)
  obtain ⟨ev, eH⟩ := q1
  subst ev
  rw [eH] at I1
  obtain rfl : u = Value.ref f := r1
  obtain ⟨⟨params, body, scope, pm, ctv, hk, of1⟩, _, _⟩ := I1.hok f _ hf
  obtain ⟨⟨oc, vs, t, hoc, hdc, hvc⟩, _, _⟩ := I1.hok c' _ hc
  obtain ⟨L, hbind⟩ := hchk params body scope hk
  refine PySem.W.callWith_F0 ⟨_, _, _, _, of1⟩ ?_
  have rc : codeAny (model X.prog X.w) X.A (.call (.ref f) ⟨[], []⟩) (CR (L2.CX X.prog X.w) X.stack X.prog X.w H s1 Q E) s1 := by
    refine PySem.W.kla_callFunE hr.depth of1 rfl L.co L.gen rfl ⟨c', oc, vs, t, rfl, hoc, hdc, hvc⟩ ?_
    rw [hbind]
    refine wpAny_pure (wpAny_newFunctionEnv (fun y hy => (L.own y hy).2.1) (fun y hy => absurd hy (by simp)) (fun h₁ hns hsb => ⟨I1.nolimit.fresh _ hsb, ?_⟩) L.kind)
    show codeAny _ _ (.expr body (cloEnv q scope s1.heap.objs.size f c')) _ _
    have kp : ∀ b o, s1.heap.get? b = some o → h₁.get? b = some o := fun b o e => hsb.extBut b o (Nat.ne_of_lt (Heap.lt_size e)) (Heap.get?_push_of_some _ e)
    have J : Inv (cloCx X X.A X.stack s1 H E N q scope f c') [] (List.replicate N.length none) H { s1 with heap := h₁, toks := s1.toks + ([] : List (Str × Value)).length } :=
      clo_start L I1.env0 hr.hd hns kp
    refine PySem.W.kla_codeExpr (wpAny_mono ((hbody params body scope hk X.A X.stack s1 H E f c' hr.hd (hr.deeper _) rfl).run [] _ _ H Q J ht) (fun v s' hq => ?_) fun e s' hq => hq)
    obtain ⟨w', H', J', rv, q⟩ := hq
    exact ⟨w', H', J'.os, J'.bare, J'.base, J'.hok, rv, q⟩
  refine wpAny_call (codeAny_mono rc fun r s' hq => ?_)
  cases r with
  | error e => exact tk e s' (XE.of_call I1 (fun cls d H' h => hW cls d H' h) hq)
  | ok fl =>
    cases fl with
    | ret u => exact I1.after hq
    | next => exact False.elim hq
    | brk => exact False.elim hq
    | cont => exact False.elim hq
end
end Mi
set_option Elab.async false
set_option linter.all false
set_option maxRecDepth 100000
set_option maxHeartbeats 4000000
/-! Mw: the check that a text is what an E, an S says. -/
namespace Mi
open PySem PySem.Spec PyProof.Rows L2
structure Ck where
  C : Cfg
  sc : Scope
  /-- at a def's own level: cells may be stored -/
  top : Bool
def nodbg (x : Str) : Bool := !(x == ("__debug__" : Str)) && !(x == ("__classdict__" : Str)) && !(x == ("__name__" : Str))
def isVis (sc : Scope) (x : Str) : Bool := match sc.names.lookup x with
  | some .local | some .cell | some .free => true
  | _ => false
def isGl (sc : Scope) (x : Str) : Bool := decide (sc.names.lookup x = some .globalImplicit)
def isLoc (k : Ck) (x : Str) : Bool := match k.sc.names.lookup x with
  | some .local => true
  | some .cell => k.top
  | _ => false
def okCst (d : D) (a : Expr) : Bool := match d with
  | .non => (match a with
    | .Constant .none _ _ => true
    | _ => false)
  | .bl b => (match a with
    | .Constant (.bool c) _ _ => b == c
    | _ => false)
  | .int i => (match a with
    | .Constant (.int j) _ _ => decide (i = j)
    | _ => false)
  | .str s => (match a with
    | .Constant (.str x) _ _ => decide (x.cps.toList = s)
    | _ => false)
  | _ => false
def bName : BF → Str
  | .len => "len" | .str => "str" | .int => "int" | .abs => "abs" | .sum => "sum" | .min => "min" | .max => "max" | .tuple => "tuple" | .sorted => "sorted"
def bHas : BF → Bool
  | .str => false
  | _ => true
def tailE (op : BoolOp) (y : Expr) (r : List Expr) (p : Pos) : Expr := match r with
  | [] => y
  | z :: r => .BoolOp op (y :: z :: r) p
def ncomp : Expr → Bool
  | .ListComp .. | .SetComp .. | .DictComp .. => false
  | _ => true
mutual
def okG (k : Ck) : Tg → Expr → Bool
  | .one i, a => (match a with
    | .Name x _ => decide (k.C.N[i]? = some x) && isLoc k x
    | _ => false)
  | .tup l, a => (match a with
    | .Tuple es _ _ => okGs k l es && es.all nst
    | _ => false)
def okGs (k : Ck) : List Tg → List Expr → Bool
  | [], es => (match es with
    | [] => true
    | _ => false)
  | t :: l, es => (match es with
    | e :: es => okG k t e && okGs k l es && nst e
    | _ => false)
end
def gName : GF → Str
  | .any => "any" | .all => "all" | .tuple => "tuple"
def gcell : List (Str × NameKind) → Bool
  | [] => true
  | (_, .cell) :: _ => false
  | _ :: r => gcell r
def gxOk (sc : Scope) : Bool := gcell sc.names && !sc.isCoroutine && decide (sc.names.lookup (".0" : Str) = some NameKind.local)
def nfold : Expr → Bool
  | .List .. => false
  | e => nset e
def Ck.gx (k : Ck) (sc : Scope) : Ck := ⟨{ k.C with d := 0, lam := fun _ _ _ _ => false, cv := false }, sc, false⟩
def ownOf (N : List Str) (l : List Nat) : List (Str × Nat) := l.map fun i => ((N[i]?).getD "", i)
mutual
def okE (k : Ck) : E → Expr → Bool
  | .var i, a => (match a with
    | .Name x _ => decide (k.C.N[i]? = some x) && isVis k.sc x && nodbg x
    | _ => false)
  | .cst d, a => okCst d a
  | .glo g, a => (match a with
    | .Name x _ => decide (k.C.globs[g]? = some x) && isGl k.sc x && nodbg x
    | _ => false)
  | .bin o ea eb, a => (match a with
    | .BinOp x op y _ => decide (op = boPy o) && okE k ea x && okE k eb y
    | _ => false)
  | .neg ea, a => (match a with
    | .UnaryOp op x _ => decide (op = .USub) && okE k ea x
    | _ => false)
  | .not ea, a => (match a with
    | .UnaryOp op x _ => decide (op = .Not) && okE k ea x
    | _ => false)
  | .cmp o ea eb, a => (match a with
    | .Compare x [op] [y] _ => decide (op = coPy o) && okE k ea x && okE k eb y && nset y
    | _ => false)
  | .chn ea l, a => (match a with
    | .Compare x (o1 :: o2 :: ops) (y1 :: y2 :: ys) _ => okE k ea x && okC k l (o1 :: o2 :: ops) (y1 :: y2 :: ys)
    | _ => false)
  | .and ea eb, a => (match a with
    | .BoolOp op (x :: y :: r) p => decide (op = .And) && okE k ea x && okE k eb (tailE .And y r p)
    | _ => false)
  | .or ea eb, a => (match a with
    | .BoolOp op (x :: y :: r) p => decide (op = .Or) && okE k ea x && okE k eb (tailE .Or y r p)
    | _ => false)
  | .ife ec ea eb, a => (match a with
    | .IfExp c x y _ => okT k ec c && okE k ea x && okE k eb y
    | _ => false)
  | .call f es, a => (match a with
    | .Call (.Name x _) as [] _ => decide (k.C.fns[f]? = some (x, as.length)) && decide (es.len = as.length) && isGl k.sc x && nodbg x && okEs k es as && as.all nst
    | _ => false)
  | .blt b es, a => (match a with
    | .Call (.Name x _) (y :: as) [] _ => decide (x = bName b) && bHas b && isGl k.sc x && okEs k es (y :: as) && (y :: as).all nst
    | _ => false)
  | .mth m eo es, a => (match a with
    | .Call (.Attribute o name apos) (y :: as) [] cpos => decide (name = mName m) && mHas m && okE k eo o && okEs k es (y :: as) && (y :: as).all nst && nsup o && decide ((y :: as).length < 30) && (apos.endLine == cpos.line)
    | _ => false)
  | .sub ea ei, a => (match a with
    | .Subscript x y _ => okE k ea x && okE k ei y && nslc y
    | _ => false)
  | .slc ea lo hi, a => (match a with
    | .Subscript x (.Slice l h none _) _ => okE k ea x && okO k lo l && okO k hi h
    | _ => false)
  | .rev ea, a => (match a with
    | .Subscript x (.Slice none none (some (.UnaryOp .USub (.Constant (.int 1) _ _) _)) _) _ => okE k ea x
    | _ => false)
  | .tup es, a => (match a with
    | .Tuple as _ _ => okEs k es as && decide (as.length ≤ 1000) && decide (es.len = as.length) && as.all nst
    | _ => false)
  | .lst _ es, a => (match a with
    | .List as _ => okEs k es as && decide (as.length ≤ 1000) && decide (es.len = as.length) && as.all nst
    | _ => false)
  | .dic _ es, a => (match a with
    | .Dict ks vs _ => okD k es ks vs && decide (ks.length ≤ 15)
    | _ => false)
  | .comp _ t it q e, a => (match a with
    | .ListComp elt [⟨tg, iter, ifs, asy⟩] scope _ => decide (asy = 0) && okI k it tg iter && blkC k.C.N k.sc scope (ownOf k.C.N (tgS t)) && okG ⟨k.C, relS scope k.sc, false⟩ t tg && okQ ⟨k.C, relS scope k.sc, false⟩ q ifs && okE ⟨k.C, relS scope k.sc, false⟩ e elt && nset iter
    | _ => false)
  | .lsof _ ea, a => (match a with
    | .Call (.Name x _) [y] [] _ => decide (x = "list") && isGl k.sc x && okE k ea y && nst y
    | _ => false)
  | .lrng _ es, a => (match a with
    | .Call (.Name x _) [.Call (.Name y _) as [] _] [] _ => decide (x = "list") && decide (y = "range") && isGl k.sc x && isGl k.sc y && okEs k es as && as.all nst && (decide (as.length = 1) || decide (as.length = 2))
    | _ => false)
  | .gen g t it q e, a => (match a with
    | .Call (.Name x _) [.GeneratorExp elt [⟨tg, iter, ifs, asy⟩] scope _] [] _ => decide (asy = 0) && decide (k.C.d = 1) && decide (x = gName g) && isGl k.sc x && okI k it tg iter && blkC k.C.N k.sc scope (ownOf k.C.N (tgS t)) && gxOk scope && nfold iter && okG (k.gx scope) t tg && okQ (k.gx scope) q ifs && okE (k.gx scope) e elt
    | _ => false)
  | .lam j, a => (match a with
    | .Lambda params body scope _ => k.C.lam j params body scope
    | _ => false)
  | .callv i, a => (match a with
    | .Call (.Name x _) [] [] _ => k.top && k.C.cv && decide (k.C.N[i]? = some x) && isVis k.sc x && nodbg x
    | _ => false)
def okT (k : Ck) : E → Expr → Bool
  | .not ea, a => (match a with
    | .UnaryOp op x _ => decide (op = .Not) && okT k ea x
    | _ => false)
  | .and ea eb, a => (match a with
    | .BoolOp op (x :: y :: r) p => decide (op = .And) && okT k ea x && okT k eb (tailE .And y r p)
    | _ => false)
  | .or ea eb, a => (match a with
    | .BoolOp op (x :: y :: r) p => decide (op = .Or) && okT k ea x && okT k eb (tailE .Or y r p)
    | _ => false)
  | .cmp o ea eb, a => (match a with
    | .Compare x [op] [y] _ => decide (op = coPy o) && okE k ea x && okE k eb y && nset y
    | _ => false)
  | .chn ea l, a => (match a with
    | .Compare x (o1 :: o2 :: ops) (y1 :: y2 :: ys) _ => okE k ea x && okC k l (o1 :: o2 :: ops) (y1 :: y2 :: ys)
    | _ => false)
  | .var i, a => (match a with
    | .Name x _ => decide (k.C.N[i]? = some x) && isVis k.sc x && nodbg x
    | _ => false)
  | .cst d, a => okCst d a
  | .call f es, a => (match a with
    | .Call (.Name x _) as [] _ => decide (k.C.fns[f]? = some (x, as.length)) && decide (es.len = as.length) && isGl k.sc x && nodbg x && okEs k es as && as.all nst
    | _ => false)
  | .sub ea ei, a => (match a with
    | .Subscript x y _ => okE k ea x && okE k ei y && nslc y
    | _ => false)
  | .gen g t it q e, a => (match a with
    | .Call (.Name x _) [.GeneratorExp elt [⟨tg, iter, ifs, asy⟩] scope _] [] _ => decide (asy = 0) && decide (k.C.d = 1) && decide (x = gName g) && isGl k.sc x && okI k it tg iter && blkC k.C.N k.sc scope (ownOf k.C.N (tgS t)) && gxOk scope && nfold iter && okG (k.gx scope) t tg && okQ (k.gx scope) q ifs && okE (k.gx scope) e elt
    | _ => false)
  | .blt b es, a => (match a with
    | .Call (.Name x _) (y :: as) [] _ => decide (x = bName b) && bHas b && isGl k.sc x && okEs k es (y :: as) && (y :: as).all nst
    | _ => false)
  | .mth m eo es, a => (match a with
    | .Call (.Attribute o name apos) (y :: as) [] cpos => decide (name = mName m) && mHas m && okE k eo o && okEs k es (y :: as) && (y :: as).all nst && nsup o && decide ((y :: as).length < 30) && (apos.endLine == cpos.line)
    | _ => false)
  | _, _ => false
def okC (k : Ck) : Ch → List CmpOp → List Expr → Bool
  | .last o eb, ops, ys => (match ops, ys with
    | [op], [y] => decide (op = coPy o) && okE k eb y && nset y
    | _, _ => false)
  | .more o eb l, ops, ys => (match ops, ys with
    | op :: o2 :: ops, y :: y2 :: ys => decide (op = coPy o) && okE k eb y && okC k l (o2 :: ops) (y2 :: ys)
    | _, _ => false)
def okEs (k : Ck) : Es → List Expr → Bool
  | .nil, as => (match as with
    | [] => true
    | _ => false)
  | .cons e r, as => (match as with
    | a :: as => okE k e a && okEs k r as && nst a
    | _ => false)
def okD (k : Ck) : Es → List (Option Expr) → List Expr → Bool
  | .nil, ks, vs => (match ks, vs with
    | [], [] => true
    | _, _ => false)
  | .cons ek (.cons ev r), ks, vs => (match ks, vs with
    | some a :: ks, b :: vs => okE k ek a && okE k ev b && okD k r ks vs
    | _, _ => false)
  | .cons _ .nil, _, _ => false
def okO (k : Ck) : Eo → Option Expr → Bool
  | .none, a => (match a with
    | none => true
    | _ => false)
  | .some e, a => (match a with
    | some a => okE k e a
    | _ => false)
def okQ (k : Ck) : Eo → List Expr → Bool
  | .none, l => (match l with
    | [] => true
    | _ => false)
  | .some e, l => (match l with
    | [c] => okT k e c
    | _ => false)
def okI (k : Ck) : It → Expr → Expr → Bool
  | .seq e, tg, a => okE k e a
  | .rng es, tg, a => (match a with
    | .Call (.Name x _) as [] _ => decide (x = "range") && isGl k.sc x && okEs k es as && as.all nst && (decide (as.length = 1) || decide (as.length = 2) || decide (as.length = 3))
    | _ => false)
  | .enm e, tg, a => (match tg, a with
    | .Tuple _ _ _, .Call (.Name x _) [y] [] _ => decide (x = "enumerate") && isGl k.sc x && okE k e y && nst y
    | _, _ => false)
  | .zip e f, tg, a => (match tg, a with
    | .Tuple _ _ _, .Call (.Name x _) [y, z] [] _ => decide (x = "zip") && isGl k.sc x && okE k e y && okE k f z && nst y && nst z
    | _, _ => false)
  | .itm _, _, _ => false
end
/-! ### statements -/
/-- names for ts, all told -/
def par2 (k : Ck) (i j : Nat) (x y : Str) (px py : Pos) (vs : List Expr) : Bool :=
  decide (k.C.N[i]? = some x) && decide (k.C.N[j]? = some y) && decide (i ≠ j) && decide (k.sc.names.lookup x = some .local) && decide (k.sc.names.lookup y = some .local) && decide (x ≠ y) && (py.line == px.line) &&
    !(vs.all (foldedForSure 8)) && !(vs.all (constantsAlone 8)) && vs.all nst && decide (vs.length = 2)
def par3 (k : Ck) (i j l : Nat) (x y z : Str) (px py pz : Pos) (vs : List Expr) : Bool :=
  decide (k.C.N[i]? = some x) && decide (k.C.N[j]? = some y) && decide (k.C.N[l]? = some z) && decide (i ≠ j) && decide (i ≠ l) && decide (j ≠ l) && decide (k.sc.names.lookup x = some .local) && decide (k.sc.names.lookup y = some .local) && decide (k.sc.names.lookup z = some .local) &&
    decide (x ≠ y) && decide (x ≠ z) && decide (y ≠ z) && (py.line == px.line) && (pz.line == px.line) && !(vs.all (foldedForSure 8)) && !(vs.all (constantsAlone 8)) && vs.all nst && decide (vs.length = 3)
def ntup : Expr → Bool
  | .Tuple .. => false
  | _ => true
def nametg : Expr → Bool
  | .Name .. => true
  | _ => false
/-- a, b = c, d where a name is a cell, or more than three: stored by a tuple -/
def celltg (sc : Scope) (tg ex : Expr) : Bool := match tg, ex with
  | .Tuple ts _ _, .Tuple _ _ _ => ts.any (fun t => match t with
    | .Name id _ => !decide (sc.names.lookup id = some .local)
    | _ => true) || decide (3 < ts.length)
  | _, _ => false
mutual
def okS (k : Ck) : S → Stmt → Bool
  | .asg t e, s => (match s with
    | .Assign [tg] ex pos => okG k t tg && nst tg && (if ncomp ex = true then okE k e ex && (ntup ex || nametg tg || celltg k.sc tg ex) else
        (match tg, ex, t, e with
        | .Name y py, .ListComp elt [⟨tg', iter, ifs, asy⟩] scope lpos, .one _, .comp _ t' it q e' => decide (k.sc.names.lookup y = some .local) && (py.line == lpos.line) && !(scope.names.any fun (n, kd) => n == y && (kd == .local || kd == .cell)) &&
            decide (asy = 0) && okI k it tg' iter && blkC k.C.N k.sc scope (ownOf k.C.N (tgS t')) && okG ⟨k.C, relS scope k.sc, false⟩ t' tg' && okQ ⟨k.C, relS scope k.sc, false⟩ q ifs && okE ⟨k.C, relS scope k.sc, false⟩ e' elt && nset iter
        | _, _, _, _ => false))
    | _ => false)
  | .par ts es, s => (match s with
    | .Assign [.Tuple [.Name x px, .Name y py] _ _] (.Tuple vs _ _) _ => (match ts with
      | [i, j] => par2 k i j x y px py vs && okEs k es vs
      | _ => false)
    | .Assign [.Tuple [.Name x px, .Name y py, .Name z pz] _ _] (.Tuple vs _ _) _ => (match ts with
      | [i, j, l] => par3 k i j l x y z px py pz vs && okEs k es vs
      | _ => false)
    | _ => false)
  | .aug i o e, s => (match s with
    | .AugAssign (.Name x _) op ex _ => decide (op = boPy o) && (decide (op = .Add) || decide (op = .Sub)) && decide (k.C.N[i]? = some x) && isLoc k x && okE k e ex
    | _ => false)
  | .put eo ei e, s => (match s with
    | .Assign [.Subscript o i _] ex _ => okE k eo o && okE k ei i && okE k e ex && nslc i
    | _ => false)
  | .cut eo el eh e, s => (match s with
    | .Assign [.Subscript o (.Slice (some lo) (some hi) none _) _] ex _ => okE k eo o && okE k el lo && okE k eh hi && okE k e ex
    | _ => false)
  | .augp _ _ _ _, _ => false
  | .app eo e, s => (match s with
    | .Expr (.Call (.Attribute o name apos) [ex] [] cpos) _ => decide (name = "append") && okE k eo o && okE k e ex && nst ex && nsup o && (apos.endLine == cpos.line)
    | _ => false)
  | .drop e, s => (match s with
    | .Expr ex _ => okE k e ex && ncomp ex
    | _ => false)
  | .ret e, s => (match s with
    | .Return (some ex) _ => okE k e ex
    | _ => false)
  | .retn, s => (match s with
    | .Return none _ => true
    | _ => false)
  | .ite c a b, s => (match s with
    | .If ex x y _ => okT k c ex && okSs k a x && okSs k b y
    | _ => false)
  | .for t it b, s => (match s with
    | .For tg iter body [] _ => okG k t tg && okI k it tg iter && okSs k b body && nset iter
    | _ => false)
  | .whl c b, s => (match s with
    | .While ex body [] _ => okT k c ex && okSs k b body
    | _ => false)
  | .brk, s => (match s with
    | .Break _ => true
    | _ => false)
  | .ct, s => (match s with
    | .Continue _ => true
    | _ => false)
  | .pass, s => (match s with
    | .Pass _ => true
    | _ => false)
  | .rai j, s => (match s with
    | .Raise (some (.Call (.Name x _) [.Constant (.str _) _ _] [] _)) none _ => decide (k.C.excs[j]? = some x) && isGl k.sc x && nodbg x
    | _ => false)
  | .tryr e h b, s => (match s with
    | .Try [.Return (some y) _] [.ExceptHandler (some (.Name x _)) none [.Return (some (.Constant (.str z) _ _)) _] _] [] [] _ => okE k e y && decide (k.C.excs[h]? = some x) && isGl k.sc x && nodbg x && (match b with
      | .cons (.ret (.cst (.str t))) .nil => decide (z.cps.toList = t)
      | _ => false)
    | _ => false)
def okSs (k : Ck) : Ss → List Stmt → Bool
  | .nil, l => (match l with
    | [] => true
    | _ => false)
  | .cons s r, l => (match l with
    | x :: l => okS k s x && okSs k r l
    | _ => false)
end
/-- a def's body, its docstring ahead -/
def okB (k : Ck) (b : Ss) (l : List Stmt) : Bool := match l with
  | .Expr (.Constant (.str _) _ _) _ :: l => okSs k b l
  | l => okSs k b l
/-! ### closed lambdas -/
def noPar : Arguments → Bool
  | ⟨[], [], none, [], [], none, []⟩ => true
  | _ => false
def lamCB (sc : Scope) : Bool := decide (sc.kind = .function) && !sc.isCoroutine && !sc.isGenerator && sc.names.all fun y => !decide (y.2 = .local) && !decide (y.2 = .cell) && !decide (y.2 = .free)
def lamChk (C : Cfg) (ls : List (List Str × E)) (j : Nat) (p : Arguments) (b : Expr) (s : Scope) : Bool := match ls[j]? with
  | some (N, e) => noPar p && lamCB s && okE ⟨{ C with N := N }, s, false⟩ e b
  | none => false
theorem lamC_by {sc : Scope} (h : lamCB sc = true) : LamC sc := by
  unfold lamCB at h
  simp only [Bool.and_eq_true, Bool.not_eq_true', decide_eq_true_eq, decide_eq_false_iff_not, List.all_eq_true] at h
  exact ⟨h.1.1.1, h.1.1.2, h.1.2, fun y hy => ⟨(h.2 y hy).1.1, (h.2 y hy).1.2, (h.2 y hy).2⟩⟩
theorem noPar_def {p : Arguments} (h : noPar p = true) (env : PySem.Env) : defaultsOf p env = ([], []) := by
  unfold noPar at h
  split at h
  · rfl
  · cases h
end Mi
set_option Elab.async false
set_option linter.all false
set_option maxRecDepth 100000
set_option maxHeartbeats 4000000
/-! Mx: the check is sound. -/
namespace Mi
open PySem PySem.Spec PyProof.Rows L2
structure Kk (k : Ck) (X : Cx) (Z0 Z : Zx) (Φ : Env) (cls : Nat → Value) (W : WX) : Prop where
  su : Su k.C X Z0 Z Φ cls W
  sc : X.env.scope = k.sc
  top : k.top = true → ∀ x, X.fn x = true
  cv : k.top = true → k.C.cv = true → ∀ (pn : List (Addr × Obj)) (xe : Value → Shared → Prop) (Z : Zx) (W : WX) (i : Nat) (a : Str) (p1 p2 : Pos), Takes (X.tr pn xe) W → ZP Z0 Z → X.N[i]? = some a → Vis X.env.scope a → (a == ("__debug__" : Str)) = false → (a == ("__classdict__" : Str)) = false →
    PE (X.tr pn xe) (.Call (.Name a p1) [] [] p2) (tE Z W cls (ev Φ (.callv i)))
theorem takes_none {X : Cx} : Takes X W0 := fun _ _ ⟨_, _, _, _, _, _, _, _, _, _, _, _, _, _, _, _, w⟩ => w.elim
section
variable {k : Ck} {X : Cx} {Z0 Z : Zx} {Φ : Env} {cls : Nat → Value} {W : WX}
theorem Kk.blk (K : Kk k X Z0 Z Φ cls W) (D : Addr) (s : Shared) (H : Hp) (scope : Scope) (C : Addr) (cl : List (Str × Addr)) (fp : List Addr) :
    Kk ⟨k.C, relS scope k.sc, false⟩ (X.blk s H scope (compEnvC scope cl C X.env) fp) Z0 (Z.with D) Φ cls W0 where
  su := ⟨K.su.hK, K.su.hN, K.su.nd, K.su.calm, K.su.hu, K.su.dp, K.su.cd, K.su.lm, takes_none, K.su.zp.with D, fun i x n h => ⟨(K.su.fn i x n h).ex⟩, K.su.gl, K.su.bl⟩
  sc := by
    show relabel scope X.env = relS scope k.sc
    rw [← K.sc]
    rfl
  top := fun h => by cases h
  cv := fun h => by cases h
theorem Kk.gx (K : Kk k X Z0 Z Φ cls W) (hd : k.C.d = 1) {Ag : Around} (nr : Near X.A Ag) (s : Shared) (H : Hp) (scope : Scope) (C : Addr) (code : Value) (fp : List Addr) (pn : List (Addr × Obj)) :
    Kk (k.gx scope) (gxC X s H (gxEnv X scope C code) Ag fp pn) Z0 Z Φ cls W0 where
  su := ⟨K.su.hK, K.su.hN, K.su.nd, K.su.calm, by
      have h1 := K.su.hu
      have h2 := nr.un
      rw [hd] at h1
      show Ag.units + 66 + 16 * 0 < cLine
      omega, by
      have h1 := K.su.dp
      have h2 := nr.dp
      rw [hd] at h1
      show Ag.depth + 3 * 0 < recursionLimit
      omega, fun h => absurd h (Nat.lt_irrefl 0), (fun j p b s h => by cases h), takes_none, K.su.zp, fun i x n h => by
      obtain ⟨f, fd, ps, kk, F, hr, hm, hk, hb⟩ := (K.su.fn i x n h).ex
      refine ⟨⟨f, fd, ps, kk, F, ⟨nr.hd, ?_, ?_⟩, hm, hk, hb⟩⟩
      · have h1 := hr.dp
        have h2 := nr.dp
        rw [hd] at h1
        show Ag.depth + 3 * (kk + 0) + 5 < recursionLimit
        omega
      · have h1 := hr.un
        have h2 := nr.un
        rw [hd] at h1
        show Ag.units + 16 * (kk + 0) + 200 < cLine
        omega, K.su.gl, K.su.bl⟩
  sc := rfl
  top := fun h => by cases h
  cv := fun h => by cases h
theorem gcell_ok : ∀ {l : List (Str × NameKind)}, gcell l = true → ∀ y ∈ l, y.2 ≠ .cell
  | [], _, _, h => by cases h
  | (x, k) :: r, h, y, hy => by
    cases k <;> first
      | (exfalso; cases h; done)
      | (rcases List.mem_cons.mp hy with e | e
         · rw [e]; exact fun z => by cases z
         · exact gcell_ok (l := r) h y e)
theorem nfold_ok {iter : Expr} {env : PySem.Env} (h : nfold iter = true) : ∀ v, genFold iter env v = pure v := by
  intro v
  unfold genFold
  cases iter <;> first | rfl | cases h
theorem vis_of {x : Str} (K : Kk k X Z0 Z Φ cls W) (h : isVis k.sc x = true) : Vis X.env.scope x := by
  rw [K.sc]
  unfold isVis at h
  split at h
  · exact .inl (by assumption)
  · exact .inr (.inl (by assumption))
  · exact .inr (.inr (by assumption))
  · cases h
theorem gl_of {x : Str} (K : Kk k X Z0 Z Φ cls W) (h : isGl k.sc x = true) : Gl X x := by
  show X.env.scope.names.lookup x = _
  rw [K.sc]
  exact of_decide_eq_true h
theorem dbg_of {x : Str} (h : nodbg x = true) : (x == ("__debug__" : Str)) = false ∧ (x == ("__classdict__" : Str)) = false ∧ x ≠ "__name__" := by
  unfold nodbg at h
  simp only [Bool.and_eq_true, Bool.not_eq_true'] at h
  exact ⟨h.1.1, h.1.2, fun e => by rw [e] at h; simp at h⟩
theorem loc_of {x : Str} (K : Kk k X Z0 Z Φ cls W) (h : isLoc k x = true) : Loc X.env.scope x ∧ (X.fn x = true ∨ X.env.scope.names.lookup x = some .local) := by
  rw [K.sc]
  unfold isLoc at h
  split at h
  · rename_i e; exact ⟨.inl e, .inr e⟩
  · rename_i e; exact ⟨.inr e, .inl (K.top h x)⟩
  · cases h
theorem nN (K : Kk k X Z0 Z Φ cls W) {i : Nat} {x : Str} (h : k.C.N[i]? = some x) : X.N[i]? = some x := by rw [K.su.hN]; exact h
theorem cst_of {d : D} {a : Expr} (h : okCst d a = true) : PE X a (tE Z W cls (ev Φ (.cst d))) := by
  cases d with
  | non =>
    cases a with
    | Constant c j p =>
      cases c with
      | none => exact m_cst pe_non fun _ _ _ => .non
      | _ => cases h
    | _ => cases h
  | bl b =>
    cases a with
    | Constant c j p =>
      cases c with
      | bool c =>
        obtain rfl : b = c := by simpa [okCst] using h
        exact m_cst pe_bl fun _ _ _ => .bl b
      | _ => cases h
    | _ => cases h
  | int i =>
    cases a with
    | Constant c j p =>
      cases c with
      | int c =>
        obtain rfl : i = c := by simpa [okCst] using h
        exact m_cst pe_int fun _ _ _ => .int i
      | _ => cases h
    | _ => cases h
  | str s =>
    cases a with
    | Constant c j p =>
      cases c with
      | str x =>
        obtain rfl : x.cps.toList = s := by simpa [okCst] using h
        exact m_cst pe_str fun _ _ _ => by
          have := Rep.str (Z := ‹_›) (ρ := ‹_›) (H := ‹_›) x.cps.toList
          rw [mkS_of] at this
          exact this
      | _ => cases h
    | _ => cases h
  | _ => cases h
mutual
theorem sG (K : Kk k X Z0 Z Φ cls W) : ∀ (t : Tg) (a : Expr), okG k t a = true → PG X a (gM Z t)
  | .one i, a, h => by
    unfold okG at h
    split at h
    · simp only [Bool.and_eq_true, decide_eq_true_eq] at h
      obtain ⟨h1, h2⟩ := loc_of K h.2
      exact g_one K.su.nd (nN K h.1) h1 h2
    · cases h
  | .tup l, a, h => by
    unfold okG at h
    split at h
    · simp only [Bool.and_eq_true] at h
      obtain ⟨g, hl⟩ := sGs K l _ h.1
      exact g_tup K.su.hK K.su.calm g h.2 hl
    · cases h
theorem sGs (K : Kk k X Z0 Z Φ cls W) : ∀ (l : List Tg) (es : List Expr), okGs k l es = true → PGs X es (gMs Z l) ∧ l.length = es.length
  | [], es, h => by
    unfold okGs at h
    split at h
    · exact ⟨g_nil, rfl⟩
    · cases h
  | t :: l, es, h => by
    unfold okGs at h
    split at h
    · simp only [Bool.and_eq_true] at h
      obtain ⟨g, hl⟩ := sGs K l _ h.1.2
      exact ⟨g_cons (sG K t _ h.1.1) g h.2, by simp [hl]⟩
    · cases h
end
theorem pw_of {op : BoolOp} {l : List Expr} {p : Pos} {t : TT} (h : PT X (.BoolOp op l p) t) : PW X (.BoolOp op l p) t := ⟨fun wh pins s σ H Q I hh => h.run pins s σ H Q I hh⟩
theorem pe_tail {op : BoolOp} {y : Expr} {r : List Expr} {p : Pos} {t : TE} (h : PE X (tailE op y r p) t) : PE X (.BoolOp op (y :: r) p) t := by
  cases r with
  | nil => exact pe_one h
  | cons z r => exact h
theorem pw_tailA {y : Expr} {r : List Expr} {p : Pos} {t : TT} (h : PT X (tailE .And y r p) t) : PW X (.BoolOp .And (y :: r) p) t := by
  cases r with
  | nil => exact pw_and1 h
  | cons z r => exact pw_of h
theorem pw_tailO {y : Expr} {r : List Expr} {p : Pos} {t : TT} (h : PT X (tailE .Or y r p) t) : PW X (.BoolOp .Or (y :: r) p) t := by
  cases r with
  | nil => exact pw_or1 h
  | cons z r => exact pw_of h
end
theorem gl_b {k : Ck} {X : Cx} {Z0 Z : Zx} {Φ : Env} {cls : Nat → Value} {W : WX} {es : Es} {y : Expr} {as : List Expr} {p pos : Pos} (K : Kk k X Z0 Z Φ cls W) (b : BF) (hb : bHas b = true) (hg : isGl k.sc (bName b) = true)
    (ha : PA X (y :: as) (tL Z W cls (evs Φ es))) (hst : (y :: as).all nst = true) : PE X (.Call (.Name (bName b) p) (y :: as) [] pos) (tE Z W cls (ev Φ (.blt b es))) := by
  have hu := K.su.hu
  cases b with
  | len => exact m_bltB K.su (bl_lenM K.su.hK) (by decide) (by decide +kernel) (gl_of K hg) (by decide) (by decide) ha hst
  | str => cases hb
  | int => exact m_bltT K.su bl_intM (by decide) (by decide +kernel) (gl_of K hg) (by decide) (by decide) ha hst
  | abs => exact m_bltB K.su bl_absM (by decide) (by decide +kernel) (gl_of K hg) (by decide) (by decide) ha hst
  | sum => exact m_bltB K.su (bl_sumM K.su.hK K.su.calm) (by decide) (by decide +kernel) (gl_of K hg) (by decide) (by decide) ha hst
  | min => exact m_bltB K.su (bl_minM K.su.hK K.su.calm) (by decide) (by decide +kernel) (gl_of K hg) (by decide) (by decide) ha hst
  | max => exact m_bltB K.su (bl_maxM K.su.hK K.su.calm) (by decide) (by decide +kernel) (gl_of K hg) (by decide) (by decide) ha hst
  | tuple => exact m_bltT K.su (bl_tupleM K.su.hK) (by decide) (by decide +kernel) (gl_of K hg) (by decide) (by decide) ha hst
  | sorted => exact m_bltB K.su (bl_sortedM K.su.hK) (by decide) (by decide +kernel) (gl_of K hg) (by decide) (by decide) ha hst
theorem own_eq (N : List Str) (l : List Nat) : (ownOf N l).map (·.2) = l := by
  unfold ownOf
  rw [List.map_map]
  induction l with
  | nil => rfl
  | cons x r ih => simp at ih ⊢; exact ih
theorem m_callA {k : Ck} {X : Cx} {Z0 Z : Zx} {Φ : Env} {cls : Nat → Value} {W : WX} {es : Es} {as : List Expr} {p pos : Pos} {x : Str} {f : Nat} (K : Kk k X Z0 Z Φ cls W) (hf : k.C.fns[f]? = some (x, as.length)) (hl : es.len = as.length) (hg : Gl X x) (hd : (x == ("__debug__" : Str)) = false)
    (ha : PA X as (tL Z W cls (evs Φ es))) (hst : as.all nst = true) : PE X (.Call (.Name x p) as [] pos) (tE Z W cls (ev Φ (.call f es))) := by
  cases as with
  | nil =>
    cases es with
    | nil => exact m_call0 K.su hf hg hd
    | cons e r => simp [Es.len] at hl
  | cons a as => exact m_call K.su hf hg hd ha hst fun σ' μ ds μ' h => by rw [evs_length Φ es σ' μ ds μ' h, hl]
theorem evT_sub (Φ : Env) (a i : E) (σ : Sl) (μ : Mu) : evT Φ (.sub a i) σ μ = (ev Φ (.sub a i) σ μ).bnd fun x μ => opt (truth μ x) μ := by
  have h1 : evT Φ (.sub a i) σ μ = (ev Φ a σ μ).bnd fun x μ => (ev Φ i σ μ).bnd fun y μ => (opt (subM μ x y) μ).bnd fun x μ => opt (truth μ x) μ := by rw [evT]
  have h2 : ev Φ (.sub a i) σ μ = (ev Φ a σ μ).bnd fun x μ => (ev Φ i σ μ).bnd fun y μ => opt (subM μ x y) μ := by rw [ev]
  rw [h1, h2]
  cases ev Φ a σ μ with
  | ok x μ1 =>
    simp only [Mi.R.bnd]
    cases ev Φ i σ μ1 <;> rfl
  | _ => rfl
theorem evT_call (Φ : Env) (f : Nat) (es : Es) (σ : Sl) (μ : Mu) : evT Φ (.call f es) σ μ = (ev Φ (.call f es) σ μ).bnd fun x μ => opt (truth μ x) μ := by
  have h1 : evT Φ (.call f es) σ μ = (evs Φ es σ μ).bnd fun xs μ => (Φ.fn f xs μ).bnd fun x μ => opt (truth μ x) μ := by rw [evT]
  have h2 : ev Φ (.call f es) σ μ = (evs Φ es σ μ).bnd fun xs μ => Φ.fn f xs μ := by rw [ev]
  rw [h1, h2]
  cases evs Φ es σ μ <;> rfl
theorem rng_args {k : Ck} {es : Es} {as : List Expr} (h : okEs k es as = true) : (as.length = 1 → ∃ e a, es = .cons e .nil ∧ as = [a] ∧ okE k e a = true ∧ nst a = true) ∧ (as.length = 2 → ∃ e a f b, es = .cons e (.cons f .nil) ∧ as = [a, b] ∧ okE k e a = true ∧ nst a = true ∧ okE k f b = true ∧ nst b = true) ∧
    (as.length = 3 → ∃ e a f b g c, es = .cons e (.cons f (.cons g .nil)) ∧ as = [a, b, c] ∧ okE k e a = true ∧ nst a = true ∧ okE k f b = true ∧ nst b = true ∧ okE k g c = true ∧ nst c = true) := by
  have one : ∀ {es : Es} {a : Expr} {as : List Expr}, okEs k es (a :: as) = true → ∃ e r, es = .cons e r ∧ okE k e a = true ∧ nst a = true ∧ okEs k r as = true := by
    intro es a as h
    cases es with
    | nil => unfold okEs at h; cases h
    | cons e r =>
      rw [okEs] at h
      simp only [Bool.and_eq_true] at h
      exact ⟨e, r, rfl, h.1.1, h.2, h.1.2⟩
  have none_ : ∀ {es : Es}, okEs k es [] = true → es = .nil := by
    intro es h
    cases es with
    | nil => rfl
    | cons e r => unfold okEs at h; cases h
  refine ⟨fun hl => ?_, fun hl => ?_, fun hl => ?_⟩
  · match as, hl, h with
    | [a], _, h =>
      obtain ⟨e, r, rfl, h1, h2, h3⟩ := one h
      obtain rfl := none_ h3
      exact ⟨e, a, rfl, rfl, h1, h2⟩
  · match as, hl, h with
    | [a, b], _, h =>
      obtain ⟨e, r, rfl, h1, h2, h3⟩ := one h
      obtain ⟨f, r, rfl, h4, h5, h6⟩ := one h3
      obtain rfl := none_ h6
      exact ⟨e, a, f, b, rfl, rfl, h1, h2, h4, h5⟩
  · match as, hl, h with
    | [a, b, c], _, h =>
      obtain ⟨e, r, rfl, h1, h2, h3⟩ := one h
      obtain ⟨f, r, rfl, h4, h5, h6⟩ := one h3
      obtain ⟨g, r, rfl, h7, h8, h9⟩ := one h6
      obtain rfl := none_ h9
      exact ⟨e, a, f, b, g, c, rfl, rfl, h1, h2, h4, h5, h7, h8⟩
section
variable {Z0 : Zx} {Φ : Env} {cls : Nat → Value}
set_option maxHeartbeats 40000000 in
mutual
theorem sE : ∀ (e : E) {k : Ck} {X : Cx} {Z : Zx} {W : WX} (a : Expr), Kk k X Z0 Z Φ cls W → okE k e a = true → PE X a (tE Z W cls (ev Φ e))
  | .var i, k, X, Z, W, a, K, h => by
    unfold okE at h
    split at h
    · simp only [Bool.and_eq_true, decide_eq_true_eq] at h
      exact m_var (nN K h.1.1) (vis_of K h.1.2) (dbg_of h.2).1 (dbg_of h.2).2.1
    · cases h
  | .cst d, k, X, Z, W, a, K, h => by
    unfold okE at h
    exact cst_of h
  | .glo g, k, X, Z, W, a, K, h => by
    unfold okE at h
    split at h
    · simp only [Bool.and_eq_true, decide_eq_true_eq] at h
      exact m_glo K.su h.1.1 (gl_of K h.1.2) (dbg_of h.2).1
    · cases h
  | .bin o ea eb, k, X, Z, W, a, K, h => by
    unfold okE at h
    split at h
    · simp only [Bool.and_eq_true, decide_eq_true_eq] at h
      obtain ⟨⟨rfl, h1⟩, h2⟩ := h
      exact m_bin K.su o (sE ea _ K h1) (sE eb _ K h2)
    · cases h
  | .neg ea, k, X, Z, W, a, K, h => by
    unfold okE at h
    split at h
    · simp only [Bool.and_eq_true, decide_eq_true_eq] at h
      obtain ⟨rfl, h1⟩ := h
      exact m_neg (sE ea _ K h1)
    · cases h
  | .not ea, k, X, Z, W, a, K, h => by
    unfold okE at h
    split at h
    · simp only [Bool.and_eq_true, decide_eq_true_eq] at h
      obtain ⟨rfl, h1⟩ := h
      exact m_not K.su (sE ea _ K h1)
    · cases h
  | .cmp o ea eb, k, X, Z, W, a, K, h => by
    unfold okE at h
    split at h
    · simp only [Bool.and_eq_true, decide_eq_true_eq] at h
      obtain ⟨⟨⟨rfl, h1⟩, h2⟩, h3⟩ := h
      exact m_cmp K.su o (sE ea _ K h1) (sE eb _ K h2) (behind_of h3)
    · cases h
  | .chn ea l, k, X, Z, W, a, K, h => by
    unfold okE at h
    split at h
    · simp only [Bool.and_eq_true, decide_eq_true_eq] at h
      exact m_chn K.su (sE ea _ K h.1) (sC l _ _ K h.2)
    · cases h
  | .and ea eb, k, X, Z, W, a, K, h => by
    unfold okE at h
    split at h
    · simp only [Bool.and_eq_true, decide_eq_true_eq] at h
      obtain ⟨⟨rfl, h1⟩, h2⟩ := h
      exact m_and K.su (sE ea _ K h1) (pe_tail (sE eb _ K h2))
    · cases h
  | .or ea eb, k, X, Z, W, a, K, h => by
    unfold okE at h
    split at h
    · simp only [Bool.and_eq_true, decide_eq_true_eq] at h
      obtain ⟨⟨rfl, h1⟩, h2⟩ := h
      exact m_or K.su (sE ea _ K h1) (pe_tail (sE eb _ K h2))
    · cases h
  | .ife ec ea eb, k, X, Z, W, a, K, h => by
    unfold okE at h
    split at h
    · simp only [Bool.and_eq_true, decide_eq_true_eq] at h
      exact m_ife (sT ec _ K h.1.1) (sE ea _ K h.1.2) (sE eb _ K h.2)
    · cases h
  | .call f es, k, X, Z, W, a, K, h => by
    unfold okE at h
    split at h
    · simp only [Bool.and_eq_true, decide_eq_true_eq] at h
      exact m_callA K h.1.1.1.1.1 h.1.1.1.1.2 (gl_of K h.1.1.1.2) (dbg_of h.1.1.2).1 (sEs es _ K h.1.2) h.2
    · cases h
  | .blt b es, k, X, Z, W, a, K, h => by
    unfold okE at h
    split at h
    · simp only [Bool.and_eq_true, decide_eq_true_eq] at h
      obtain ⟨⟨⟨⟨rfl, h1⟩, h2⟩, h3⟩, h4⟩ := h
      exact gl_b K b h1 h2 (sEs es _ K h3) h4
    · cases h
  | .mth m eo es, k, X, Z, W, a, K, h => by
    unfold okE at h
    split at h
    · simp only [Bool.and_eq_true, decide_eq_true_eq] at h
      obtain ⟨⟨⟨⟨⟨⟨⟨rfl, h1⟩, h2⟩, h3⟩, h4⟩, h5⟩, h6⟩, h7⟩ := h
      exact m_mth K.su m h1 (sE eo _ K h2) (sEs es _ K h3) h4 h5 h6 h7
    · cases h
  | .sub ea ei, k, X, Z, W, a, K, h => by
    unfold okE at h
    split at h
    · simp only [Bool.and_eq_true, decide_eq_true_eq] at h
      exact m_sub K.su (sE ea _ K h.1.1) (sE ei _ K h.1.2) h.2
    · cases h
  | .slc ea lo hi, k, X, Z, W, a, K, h => by
    unfold okE at h
    split at h
    · simp only [Bool.and_eq_true, decide_eq_true_eq] at h
      exact m_slc K.su (sE ea _ K h.1.1) (sO lo _ K h.1.2) (sO hi _ K h.2)
    · cases h
  | .rev ea, k, X, Z, W, a, K, h => by
    unfold okE at h
    split at h
    · exact m_rev K.su (sE ea _ K h)
    · cases h
  | .tup es, k, X, Z, W, a, K, h => by
    unfold okE at h
    split at h
    · simp only [Bool.and_eq_true, decide_eq_true_eq] at h
      exact m_tup (sEs es _ K h.1.1.1) h.1.1.2 fun σ' μ ds μ' q => by rw [evs_length Φ es σ' μ ds μ' q, h.1.2]
    · cases h
  | .lst c es, k, X, Z, W, a, K, h => by
    unfold okE at h
    split at h
    · simp only [Bool.and_eq_true, decide_eq_true_eq] at h
      exact m_lst (sEs es _ K h.1.1.1) h.1.1.2 fun σ' μ ds μ' q => by rw [evs_length Φ es σ' μ ds μ' q, h.1.2]
    · cases h
  | .dic c es, k, X, Z, W, a, K, h => by
    unfold okE at h
    split at h
    · simp only [Bool.and_eq_true, decide_eq_true_eq] at h
      rename_i ks vs p
      have hd := sD es ks vs (fun D => (⟨⟨K.su.hK, K.su.hN, K.su.nd, K.su.calm, K.su.hu, K.su.dp, K.su.cd, K.su.lm, K.su.tk, K.su.zp.with D, K.su.fn, K.su.gl, K.su.bl⟩, K.sc, K.top, K.cv⟩ : Kk k X Z0 (Z.with D) Φ cls W)) h.1
      obtain ⟨n, hd⟩ := hd
      cases n with
      | zero =>
        cases hd
        exact m_dic0 K.su
      | succ n => exact m_dic K.su hd (by rw [← hd.len.2.2]; exact h.2)
    · cases h
  | .comp c t it q e, k, X, Z, W, a, K, h => by
    unfold okE at h
    split at h
    · simp only [Bool.and_eq_true, decide_eq_true_eq] at h
      obtain ⟨⟨⟨⟨⟨⟨rfl, h1⟩, h2⟩, h3⟩, h4⟩, h5⟩, h6⟩ := h
      refine m_comp K.su (own := ownOf k.C.N (tgS t)) (sI it _ _ K h1) ?_ (own_eq _ _) (fun D s H C cl fp => sG (K.blk D s H _ C cl fp) t _ h3) (fun D s H C cl fp => sQ q _ (K.blk D s H _ C cl fp) h4) (fun D s H C cl fp => sE e _ (K.blk D s H _ C cl fp) h5) h6
      rw [K.su.hN, K.sc]
      exact blkOk_by h2
    · cases h
  | .lsof c ea, k, X, Z, W, a, K, h => by
    unfold okE at h
    split at h
    · simp only [Bool.and_eq_true, decide_eq_true_eq] at h
      obtain ⟨⟨⟨rfl, h1⟩, h2⟩, h3⟩ := h
      exact m_lsof K.su (sE ea _ K h2) (gl_of K h1) h3
    · cases h
  | .lrng c .nil, k, X, Z, W, a, K, h => by
    exfalso
    unfold okE at h
    split at h
    · simp only [Bool.and_eq_true, Bool.or_eq_true, decide_eq_true_eq] at h
      obtain ⟨⟨⟨⟨⟨⟨_, _⟩, _⟩, _⟩, h3⟩, _⟩, h5⟩ := h
      obtain ⟨r1, r2, _⟩ := rng_args h3
      rcases h5 with h5 | h5
      · obtain ⟨_, _, e, _⟩ := r1 h5; cases e
      · obtain ⟨_, _, _, _, e, _⟩ := r2 h5; cases e
    · cases h
  | .lrng c (.cons e .nil), k, X, Z, W, a, K, h => by
    unfold okE at h
    split at h
    · simp only [Bool.and_eq_true, Bool.or_eq_true, decide_eq_true_eq] at h
      obtain ⟨⟨⟨⟨⟨⟨rfl, rfl⟩, h1⟩, h2⟩, h3⟩, h4⟩, h5⟩ := h
      obtain ⟨r1, r2, _⟩ := rng_args h3
      rcases h5 with h5 | h5
      · obtain ⟨_, a, e1, rfl, q1, q2⟩ := r1 h5
        cases e1
        exact m_lrng1 K.su (sE e a K q1) (gl_of K h1) (gl_of K h2) q2
      · obtain ⟨_, _, _, _, e, _⟩ := r2 h5; cases e
    · cases h
  | .lrng c (.cons e (.cons f .nil)), k, X, Z, W, a, K, h => by
    unfold okE at h
    split at h
    · simp only [Bool.and_eq_true, Bool.or_eq_true, decide_eq_true_eq] at h
      obtain ⟨⟨⟨⟨⟨⟨rfl, rfl⟩, h1⟩, h2⟩, h3⟩, h4⟩, h5⟩ := h
      obtain ⟨r1, r2, _⟩ := rng_args h3
      rcases h5 with h5 | h5
      · obtain ⟨_, a, e1, _⟩ := r1 h5; cases e1
      · obtain ⟨_, a, _, b, e1, rfl, q1, q2, q3, q4⟩ := r2 h5
        cases e1
        exact m_lrng2 K.su (sE e a K q1) (sE f b K q3) (gl_of K h1) (gl_of K h2) q2 q4
    · cases h
  | .lrng c (.cons e (.cons f (.cons g r))), k, X, Z, W, a, K, h => by
    exfalso
    unfold okE at h
    split at h
    · simp only [Bool.and_eq_true, Bool.or_eq_true, decide_eq_true_eq] at h
      obtain ⟨⟨⟨⟨⟨⟨_, _⟩, _⟩, _⟩, h3⟩, _⟩, h5⟩ := h
      obtain ⟨r1, r2, _⟩ := rng_args h3
      rcases h5 with h5 | h5
      · obtain ⟨_, _, e, _⟩ := r1 h5; cases e
      · obtain ⟨_, _, _, _, e, _⟩ := r2 h5; cases e
    · cases h
  | .gen g t it q e, k, X, Z, W, a, K, h => by
    unfold okE at h
    split at h
    · simp only [Bool.and_eq_true, decide_eq_true_eq] at h
      obtain ⟨⟨⟨⟨⟨⟨⟨⟨⟨⟨rfl, hd⟩, h1⟩, h2⟩, h3⟩, h4⟩, h5⟩, h6⟩, h7⟩, h8⟩, h9⟩ := h
      unfold gxOk at h5
      simp only [Bool.and_eq_true, decide_eq_true_eq, Bool.not_eq_true'] at h5
      refine m_gen K.su hd g (own := ownOf k.C.N (tgS t)) (h1.trans (by cases g <;> rfl)) (gl_of K h2) (sI it _ _ K h3) ?_ (gcell_ok h5.1.1) h5.1.2 h5.2 (own_eq _ _) (nfold_ok h6) (fun s H C code Ag fp pn nr => sG (K.gx hd nr s H _ C code fp pn) t _ h7) (fun s H C code Ag fp pn nr => sQ q _ (K.gx hd nr s H _ C code fp pn) h8) (fun s H C code Ag fp pn nr => sE e _ (K.gx hd nr s H _ C code fp pn) h9)
      rw [K.su.hN, K.sc]
      exact blkOk_by h4
    · cases h
  | .lam j, k, X, Z, W, a, K, h => by
    unfold okE at h
    split at h
    · obtain ⟨c, P, q, h1, h2, h3, h4, h5, h6, h7, h8, h9⟩ := K.su.lm _ _ _ _ h
      exact m_lam K.su h1 h2 h3 h4 h5 h6 h7 (h8 _) h9 h
    · cases h
  | .callv i, k, X, Z, W, a, K, h => by
    unfold okE at h
    split at h
    · simp only [Bool.and_eq_true, decide_eq_true_eq] at h
      exact K.cv h.1.1.1.1 h.1.1.1.2 X.pn X.xe Z W _ _ _ _ K.su.tk K.su.zp (nN K h.1.1.2) (vis_of K h.1.2) (dbg_of h.2).1 (dbg_of h.2).2.1
    · cases h
theorem sT : ∀ (e : E) {k : Ck} {X : Cx} {Z : Zx} {W : WX} (a : Expr), Kk k X Z0 Z Φ cls W → okT k e a = true → PT X a (tT Z W cls (evT Φ e))
  | .not ea, k, X, Z, W, a, K, h => by
    unfold okT at h
    split at h
    · simp only [Bool.and_eq_true, decide_eq_true_eq] at h
      obtain ⟨rfl, h1⟩ := h
      exact m_tnot (sT ea _ K h1)
    · cases h
  | .and ea eb, k, X, Z, W, a, K, h => by
    unfold okT at h
    split at h
    · simp only [Bool.and_eq_true, decide_eq_true_eq] at h
      obtain ⟨⟨rfl, h1⟩, h2⟩ := h
      exact (m_tand (sT ea _ K h1) (pw_tailA (sT eb _ K h2))).pt
    · cases h
  | .or ea eb, k, X, Z, W, a, K, h => by
    unfold okT at h
    split at h
    · simp only [Bool.and_eq_true, decide_eq_true_eq] at h
      obtain ⟨⟨rfl, h1⟩, h2⟩ := h
      exact (m_tor (sT ea _ K h1) (pw_tailO (sT eb _ K h2))).pt
    · cases h
  | .cmp o ea eb, k, X, Z, W, a, K, h => by
    unfold okT at h
    split at h
    · simp only [Bool.and_eq_true, decide_eq_true_eq] at h
      obtain ⟨⟨⟨rfl, h1⟩, h2⟩, h3⟩ := h
      exact m_tcmp K.su o (sE ea _ K h1) (sE eb _ K h2) (behind_of h3)
    · cases h
  | .chn ea l, k, X, Z, W, a, K, h => by
    unfold okT at h
    split at h
    · simp only [Bool.and_eq_true, decide_eq_true_eq] at h
      exact m_tchn K.su (sE ea _ K h.1) (sC l _ _ K h.2)
    · cases h
  | .var i, k, X, Z, W, a, K, h => by
    unfold okT at h
    split at h
    · simp only [Bool.and_eq_true, decide_eq_true_eq] at h
      refine m_tval K.su (m_var (nN K h.1.1) (vis_of K h.1.2) (dbg_of h.2).1 (dbg_of h.2).2.1) (fun _ => rfl) fun σ' μ => ?_
      unfold evT ev
      split <;> rfl
    · cases h
  | .cst d, k, X, Z, W, a, K, h => by
    unfold okT at h
    refine m_tval K.su (cst_of h) (fun _ => ?_) fun σ' μ => ?_
    · cases a with
      | Constant c j p => rfl
      | _ => cases d <;> cases h
    · unfold evT ev
      rfl
  | .call f es, k, X, Z, W, a, K, h => by
    unfold okT at h
    split at h
    · simp only [Bool.and_eq_true, decide_eq_true_eq] at h
      refine m_tval K.su (m_callA K h.1.1.1.1.1 h.1.1.1.1.2 (gl_of K h.1.1.1.2) (dbg_of h.1.1.2).1 (sEs es _ K h.1.2) h.2) (fun _ => rfl) fun σ' μ => evT_call Φ f es σ' μ
    · cases h
  | .sub ea ei, k, X, Z, W, a, K, h => by
    unfold okT at h
    split at h
    · simp only [Bool.and_eq_true, decide_eq_true_eq] at h
      refine m_tval K.su (m_sub K.su (sE ea _ K h.1.1) (sE ei _ K h.1.2) h.2) (fun _ => rfl) fun σ' μ => evT_sub Φ ea ei σ' μ
    · cases h
  | .glo _, k, X, Z, W, a, K, h => by unfold okT at h; cases h
  | .bin _ _ _, k, X, Z, W, a, K, h => by unfold okT at h; cases h
  | .neg _, k, X, Z, W, a, K, h => by unfold okT at h; cases h
  | .ife _ _ _, k, X, Z, W, a, K, h => by unfold okT at h; cases h
  | .blt b es, k, X, Z, W, a, K, h => by
    unfold okT at h
    split at h
    · simp only [Bool.and_eq_true, decide_eq_true_eq] at h
      obtain ⟨⟨⟨⟨rfl, h1⟩, h2⟩, h3⟩, h4⟩ := h
      exact m_tval K.su (gl_b K b h1 h2 (sEs es _ K h3) h4) (fun _ => rfl) fun σ' μ => by rw [evT, ev]
    · cases h
  | .mth m eo es, k, X, Z, W, a, K, h => by
    unfold okT at h
    split at h
    · simp only [Bool.and_eq_true, decide_eq_true_eq] at h
      obtain ⟨⟨⟨⟨⟨⟨⟨rfl, h1⟩, h2⟩, h3⟩, h4⟩, h5⟩, h6⟩, h7⟩ := h
      exact m_tval K.su (m_mth K.su m h1 (sE eo _ K h2) (sEs es _ K h3) h4 h5 h6 h7) (fun _ => rfl) fun σ' μ => by rw [evT, ev]
    · cases h
  | .slc _ _ _, k, X, Z, W, a, K, h => by unfold okT at h; cases h
  | .rev _, k, X, Z, W, a, K, h => by unfold okT at h; cases h
  | .tup _, k, X, Z, W, a, K, h => by unfold okT at h; cases h
  | .lst _ _, k, X, Z, W, a, K, h => by unfold okT at h; cases h
  | .dic _ _, k, X, Z, W, a, K, h => by unfold okT at h; cases h
  | .comp _ _ _ _ _, k, X, Z, W, a, K, h => by unfold okT at h; cases h
  | .lsof _ _, k, X, Z, W, a, K, h => by unfold okT at h; cases h
  | .lrng _ _, k, X, Z, W, a, K, h => by unfold okT at h; cases h
  | .gen g t it q e, k, X, Z, W, a, K, h => by
    unfold okT at h
    split at h
    · simp only [Bool.and_eq_true, decide_eq_true_eq] at h
      obtain ⟨⟨⟨⟨⟨⟨⟨⟨⟨⟨rfl, hd⟩, h1⟩, h2⟩, h3⟩, h4⟩, h5⟩, h6⟩, h7⟩, h8⟩, h9⟩ := h
      unfold gxOk at h5
      simp only [Bool.and_eq_true, decide_eq_true_eq, Bool.not_eq_true'] at h5
      refine m_tval K.su (m_gen K.su hd g (own := ownOf k.C.N (tgS t)) (h1.trans (by cases g <;> rfl)) (gl_of K h2) (sI it _ _ K h3) ?_ (gcell_ok h5.1.1) h5.1.2 h5.2 (own_eq _ _) (nfold_ok h6) (fun s H C code Ag fp pn nr => sG (K.gx hd nr s H _ C code fp pn) t _ h7) (fun s H C code Ag fp pn nr => sQ q _ (K.gx hd nr s H _ C code fp pn) h8) (fun s H C code Ag fp pn nr => sE e _ (K.gx hd nr s H _ C code fp pn) h9)) (fun _ => rfl) fun σ' μ => by rw [evT, ev]
      rw [K.su.hN, K.sc]
      exact blkOk_by h4
    · cases h
  | .lam _, k, X, Z, W, a, K, h => by unfold okT at h; cases h
  | .callv _, k, X, Z, W, a, K, h => by unfold okT at h; cases h
theorem sC : ∀ (l : Ch) {k : Ck} {X : Cx} {Z : Zx} {W : WX} (ops : List CmpOp) (ys : List Expr), Kk k X Z0 Z Φ cls W → okC k l ops ys = true → PCh X Z W cls Φ l ops ys
  | .last o eb, k, X, Z, W, ops, ys, K, h => by
    unfold okC at h
    split at h
    · simp only [Bool.and_eq_true, decide_eq_true_eq] at h
      obtain ⟨⟨rfl, h1⟩, h2⟩ := h
      exact .last (sE eb _ K h1) h2
    · cases h
  | .more o eb l, k, X, Z, W, ops, ys, K, h => by
    unfold okC at h
    split at h
    · simp only [Bool.and_eq_true, decide_eq_true_eq] at h
      obtain ⟨⟨rfl, h1⟩, h2⟩ := h
      exact .more (sE eb _ K h1) (sC l _ _ K h2)
    · cases h
theorem sEs : ∀ (es : Es) {k : Ck} {X : Cx} {Z : Zx} {W : WX} (as : List Expr), Kk k X Z0 Z Φ cls W → okEs k es as = true → PA X as (tL Z W cls (evs Φ es))
  | .nil, k, X, Z, W, as, K, h => by
    unfold okEs at h
    split at h
    · exact m_nil
    · cases h
  | .cons e r, k, X, Z, W, as, K, h => by
    unfold okEs at h
    split at h
    · simp only [Bool.and_eq_true, decide_eq_true_eq] at h
      exact m_cons (sE e _ K h.1.1) (sEs r _ K h.1.2) h.2
    · cases h
theorem sD : ∀ (es : Es) {k : Ck} {X : Cx} {Z : Zx} {W : WX} (ks : List (Option Expr)) (vs : List Expr), (∀ D : Addr, Kk k X Z0 (Z.with D) Φ cls W) → okD k es ks vs = true → ∃ n, PDs X Z W cls Φ es ks vs n
  | .nil, k, X, Z, W, ks, vs, K, h => by
    unfold okD at h
    split at h
    · exact ⟨0, .nil⟩
    · cases h
  | .cons ek (.cons ev' r), k, X, Z, W, ks, vs, K, h => by
    unfold okD at h
    split at h
    · simp only [Bool.and_eq_true, decide_eq_true_eq] at h
      obtain ⟨n, hd⟩ := sD r _ _ K h.2
      exact ⟨n + 1, .cons (fun D => sE ek _ (K D) h.1.1) (fun D => sE ev' _ (K D) h.1.2) hd⟩
    · cases h
  | .cons _ .nil, k, X, Z, W, ks, vs, K, h => by
    unfold okD at h
    cases h
theorem sO : ∀ (o : Eo) {k : Ck} {X : Cx} {Z : Zx} {W : WX} (a : Option Expr), Kk k X Z0 Z Φ cls W → okO k o a = true → PO X a (tO Z W cls (evo Φ o))
  | .none, k, X, Z, W, a, K, h => by
    unfold okO at h
    split at h
    · exact m_ono
    · cases h
  | .some e, k, X, Z, W, a, K, h => by
    unfold okO at h
    split at h
    · exact m_oso (sE e _ K h)
    · cases h
theorem sQ : ∀ (o : Eo) {k : Ck} {X : Cx} {Z : Zx} {W : WX} (l : List Expr), Kk k X Z0 Z Φ cls W → okQ k o l = true → PTs X l (tT Z W cls (evq Φ o))
  | .none, k, X, Z, W, a, K, h => by
    unfold okQ at h
    split at h
    · exact m_qn
    · cases h
  | .some e, k, X, Z, W, a, K, h => by
    unfold okQ at h
    split at h
    · exact m_qs (sT e _ K h)
    · cases h
theorem sI : ∀ (it : It) {k : Ck} {X : Cx} {Z : Zx} {W : WX} (tg a : Expr), Kk k X Z0 Z Φ cls W → okI k it tg a = true → PI X tg a (tI Z W cls (evi Φ it))
  | .seq e, k, X, Z, W, tg, a, K, h => by
    unfold okI at h
    exact m_iseq K.su.hK (sE e _ K h)
  | .rng .nil, k, X, Z, W, tg, a, K, h => by
    exfalso
    unfold okI at h
    split at h
    · simp only [Bool.and_eq_true, Bool.or_eq_true, decide_eq_true_eq] at h
      obtain ⟨⟨⟨⟨_, _⟩, h3⟩, _⟩, h5⟩ := h
      obtain ⟨r1, r2, r3⟩ := rng_args h3
      rcases h5 with (h5 | h5) | h5
      · obtain ⟨_, _, e, _⟩ := r1 h5; cases e
      · obtain ⟨_, _, _, _, e, _⟩ := r2 h5; cases e
      · obtain ⟨_, _, _, _, _, _, e, _⟩ := r3 h5; cases e
    · cases h
  | .rng (.cons e .nil), k, X, Z, W, tg, a, K, h => by
    unfold okI at h
    split at h
    · simp only [Bool.and_eq_true, Bool.or_eq_true, decide_eq_true_eq] at h
      obtain ⟨⟨⟨⟨rfl, h1⟩, h3⟩, _⟩, h5⟩ := h
      obtain ⟨r1, r2, r3⟩ := rng_args h3
      rcases h5 with (h5 | h5) | h5
      · obtain ⟨_, a, e1, rfl, q1, q2⟩ := r1 h5
        cases e1
        exact m_irng1 K.su (sE e a K q1) (gl_of K h1) q2
      · obtain ⟨_, _, _, _, e, _⟩ := r2 h5; cases e
      · obtain ⟨_, _, _, _, _, _, e, _⟩ := r3 h5; cases e
    · cases h
  | .rng (.cons e (.cons f .nil)), k, X, Z, W, tg, a, K, h => by
    unfold okI at h
    split at h
    · simp only [Bool.and_eq_true, Bool.or_eq_true, decide_eq_true_eq] at h
      obtain ⟨⟨⟨⟨rfl, h1⟩, h3⟩, _⟩, h5⟩ := h
      obtain ⟨r1, r2, r3⟩ := rng_args h3
      rcases h5 with (h5 | h5) | h5
      · obtain ⟨_, _, e, _⟩ := r1 h5; cases e
      · obtain ⟨_, a, _, b, e1, rfl, q1, q2, q3, q4⟩ := r2 h5
        cases e1
        exact m_irng2 K.su (sE e a K q1) (sE f b K q3) (gl_of K h1) q2 q4
      · obtain ⟨_, _, _, _, _, _, e, _⟩ := r3 h5; cases e
    · cases h
  | .rng (.cons e (.cons f (.cons g .nil))), k, X, Z, W, tg, a, K, h => by
    unfold okI at h
    split at h
    · simp only [Bool.and_eq_true, Bool.or_eq_true, decide_eq_true_eq] at h
      obtain ⟨⟨⟨⟨rfl, h1⟩, h3⟩, _⟩, h5⟩ := h
      obtain ⟨r1, r2, r3⟩ := rng_args h3
      rcases h5 with (h5 | h5) | h5
      · obtain ⟨_, _, e, _⟩ := r1 h5; cases e
      · obtain ⟨_, _, _, _, e, _⟩ := r2 h5; cases e
      · obtain ⟨_, a, _, b, _, c, e1, rfl, q1, q2, q3, q4, q5, q6⟩ := r3 h5
        cases e1
        exact m_irng3 K.su (sE e a K q1) (sE f b K q3) (sE g c K q5) (gl_of K h1) q2 q4 q6
    · cases h
  | .rng (.cons e (.cons f (.cons g (.cons j r)))), k, X, Z, W, tg, a, K, h => by
    exfalso
    unfold okI at h
    split at h
    · simp only [Bool.and_eq_true, Bool.or_eq_true, decide_eq_true_eq] at h
      obtain ⟨⟨⟨⟨_, _⟩, h3⟩, _⟩, h5⟩ := h
      obtain ⟨r1, r2, r3⟩ := rng_args h3
      rcases h5 with (h5 | h5) | h5
      · obtain ⟨_, _, e, _⟩ := r1 h5; cases e
      · obtain ⟨_, _, _, _, e, _⟩ := r2 h5; cases e
      · obtain ⟨_, _, _, _, _, _, e, _⟩ := r3 h5; cases e
    · cases h
  | .enm e, k, X, Z, W, tg, a, K, h => by
    unfold okI at h
    split at h
    · simp only [Bool.and_eq_true, decide_eq_true_eq] at h
      obtain ⟨⟨⟨rfl, h1⟩, h2⟩, h3⟩ := h
      exact m_ienm K.su (sE e _ K h2) (gl_of K h1) h3
    · cases h
  | .zip e f, k, X, Z, W, tg, a, K, h => by
    unfold okI at h
    split at h
    · simp only [Bool.and_eq_true, decide_eq_true_eq] at h
      obtain ⟨⟨⟨⟨⟨rfl, h1⟩, h2⟩, h3⟩, h4⟩, h5⟩ := h
      exact m_izip K.su (sE e _ K h2) (sE f _ K h3) (gl_of K h1) h4 h5
    · cases h
  | .itm _, k, X, Z, W, tg, a, K, h => by
    unfold okI at h
    cases h
end
end
end Mi
set_option Elab.async false
set_option linter.all false
set_option maxRecDepth 100000
set_option maxHeartbeats 4000000
/-! Nt: try: return e / except x: return a text. -/
namespace Mi
open PySem PySem.Spec PyProof.Rows L2
section
variable {k : Ck} {X : Cx} {Z0 Z : Zx} {Φ : Env} {cls : Nat → Value} {W : WX}
theorem Kk.tr (K : Kk k X Z0 Z Φ cls W) (pn : List (Addr × Obj)) (xe : Value → Shared → Prop) {W' : WX} (tk : Takes (X.tr pn xe) W') : Kk k (X.tr pn xe) Z0 Z Φ cls W' where
  su := ⟨K.su.hK, K.su.hN, K.su.nd, K.su.calm, K.su.hu, K.su.dp, K.su.cd, K.su.lm, tk, K.su.zp, fun i x n h => ⟨(K.su.fn i x n h).ex⟩, K.su.gl, K.su.bl⟩
  sc := K.sc
  top := K.top
  cv := fun h1 h2 pn' xe' => K.cv h1 h2 pn' xe'
theorem m_try (K : Kk k X Z0 Z Φ cls W) (hs : X.stack = X.env :: X.outer) (hf : X.env.frame = some X.env.locals) {x z : Str} {c : Nat} {t : T} {ee : E} {e : Expr} {j : Nat} {p1 p2 p3 p4 p5 p6 : Pos} (hc : Names X x (cls c)) (hx : ∀ d, PySem.W.exmOne X.K (cls d) (cls c) = some (decide (d = c)))
    (hz : z.cps.toList = t) (he : ∀ (pn : List (Addr × Obj)) (xe : Value → Shared → Prop) (W' : WX), Takes (X.tr pn xe) W' → PE (X.tr pn xe) e (tE Z W' cls (ev Φ ee))) :
    PS X (.Try [.Return (some e) p1] [.ExceptHandler (some (.Name x p2)) none [.Return (some (.Constant (.str z) j p3)) p4] p5] [] [] p6) (tSt Z W cls (rn Φ (.tryr ee c (sL [.ret (.cst (.str t))])))) := by
  refine ⟨fun pins s σ H D I h => (ps_try_only (c := cls c) hs hf hc K.su.tk (tb := fun W' D σ H => tE Z W' cls (ev Φ ee) σ H D.rt) (ts := fun _ _ _ D σ H => D.rt (.str z) H) (fun W' pn xe tk _ => ?_) (fun a oe cl d pn _ _ => ?_)).run pins s σ H D I ?_⟩
  · refine ⟨fun pins s σ H D I h => (pss_one (ps_ret (pos := p1) (he pn xe W' tk))).run pins s σ H D I h⟩
  · exact ⟨fun pins s σ H D I h => (pss_one (ps_ret (pos := p4) pe_str)).run pins s σ H D I h⟩
  · obtain ⟨ρ, σ', μ, so, m, p⟩ := h
    refine ⟨ρ, σ', μ, so, m, ?_⟩
    unfold rn at p
    cases hev : ev Φ ee σ' μ with
    | no => rw [hev] at p; exact p
    | ok d μ' =>
      rw [hev] at p
      exact fun ρ1 H1 e1 m1 v r => p ρ1 H1 e1 m1 v r
    | exc d μ' =>
      rw [hev] at p
      intro ρ1 H1 e1 m1
      refine ⟨_, hx d, fun hb a _ => ?_, fun hb => ?_⟩
      · have hd : d = c := of_decide_eq_true hb
        simp only [hd, if_true, sL, rns, rn, ev, Mi.R.bnd, seqF] at p
        have := p ρ1 H1 e1 m1 (.str z) (by rw [← hz]; exact .str _)
        exact this
      · have hd : d ≠ c := of_decide_eq_false hb
        simp only [hd, if_false] at p
        exact p ρ1 H1 e1 m1 σ
end
end Mi
set_option Elab.async false
set_option linter.all false
set_option maxRecDepth 100000
set_option maxHeartbeats 4000000
/-! My: the check of statements is sound. -/
namespace Mi
open PySem PySem.Spec PyProof.Rows L2
/-- at a def's own level -/
structure Ks (k : Ck) (X : Cx) (Z0 Z : Zx) (Φ : Env) (cls : Nat → Value) (W : WX) : Prop where
  kk : Kk k X Z0 Z Φ cls W
  po : PassesOwn (model X.prog X.w) X.A X.env X.xe
  kind : X.env.scope.kind = .function
  st : X.stack = X.env :: X.outer ∧ X.env.frame = some X.env.locals
  exn : ∀ (j : Nat) (x : Str), k.C.excs[j]? = some x → Gl X x → (x == ("__debug__" : Str)) = false → Names X x (cls j)
  exm : ∀ (j : Nat) (x : Str), k.C.excs[j]? = some x → ∀ d, PySem.W.exmOne X.K (cls d) (cls j) = some (decide (d = j))
  exc : ∀ (j : Nat) (x : Str), k.C.excs[j]? = some x → Gl X x → (x == ("__debug__" : Str)) = false → ∀ (m : Str) (n : Nat) (p p2 pos : Pos), PMk X (.Call (.Name x p) [.Constant (.str m) n p2] [] pos) (fun _ H Q => Q (cls j) none H)
theorem sw_no {e : Expr} (h : ncomp e = true) (t : Option Expr) (l : Nat) (env : PySem.Env) : swapsWith e t l env = pure false := by
  cases e <;> first | rfl | cases h
theorem sws_no {e : Expr} (h : ncomp e = true) (t : Expr) (l : Nat) (env : PySem.Env) : swapsWithSole [t] e l env = pure false := sw_no h _ _ _
theorem sw_tgt {tg e : Expr} {l : Nat} {env : PySem.Env} (h : (match tg with | .Subscript .. => true | _ => false) = true) : swapsWithSole [tg] e l env = pure false := by
  cases tg <;> first | (cases h; done) | (cases e <;> rfl)
theorem sst_no {tg e : Expr} {env : PySem.Env} (h : (ntup e || nametg tg) = true) : swappedStores [tg] e env = pure none := by
  rw [Bool.or_eq_true] at h
  rcases h with h | h
  · cases e <;> first | (cases h; done) | (unfold swappedStores; cases tg <;> rfl)
  · cases tg <;> first | (cases h; done) | rfl
theorem filterMap_lt {α β : Type} (f : α → Option β) : ∀ {l : List α}, (∃ x ∈ l, f x = none) → (l.filterMap f).length < l.length
  | [], h => by obtain ⟨x, hx, _⟩ := h; cases hx
  | a :: l, h => by
    obtain ⟨x, hx, hn⟩ := h
    have le : (l.filterMap f).length ≤ l.length := List.length_filterMap_le _ _
    rcases List.mem_cons.mp hx with e | e
    · subst e
      rw [List.filterMap_cons_none hn, List.length_cons]; omega
    · have ih := filterMap_lt f ⟨x, e, hn⟩
      cases hf : f a with
      | none => rw [List.filterMap_cons_none hf, List.length_cons]; omega
      | some b => rw [List.filterMap_cons_some hf, List.length_cons, List.length_cons]; omega
theorem sst_cell {tg e : Expr} {env : PySem.Env} {sc : Scope} (hsc : env.scope = sc) (h : celltg sc tg e = true) : swappedStores [tg] e env = pure none := by
  unfold celltg at h
  split at h
  · rename_i ts k p vs k2 p2
    rw [Bool.or_eq_true] at h
    unfold swappedStores
    dsimp only
    generalize hn : List.filterMap _ ts = names
    split
    · rfl
    · rename_i h1
      split
      · rfl
      · split
        · rfl
        · rename_i h3
          exfalso
          simp at h1 h3
          rcases h with h | h
          · obtain ⟨t, ht, hb⟩ := List.any_eq_true.mp h
            have lt : names.length < ts.length := by
              rw [← hn]
              refine filterMap_lt _ ⟨t, ht, ?_⟩
              cases t <;> first | rfl | (
                simp only [Bool.not_eq_true', decide_eq_false_iff_not] at hb
                simp [PySem.Env.kindOf, hsc, hb])
            omega
          · simp at h
            omega
  · cases h
theorem blk_fn {env : PySem.Env} (h : env.scope.kind = .function) : env.blockKind = .function := by
  unfold PySem.Env.blockKind
  rw [h]
  rfl
theorem no_star : ∀ {vs : List Expr}, vs.all nst = true → (vs.any fun | .Starred .. => true | _ => false) = false
  | [], _ => rfl
  | a :: vs, h => by
    simp only [List.all_cons, Bool.and_eq_true] at h
    rw [List.any_cons, no_star h.2]
    cases a <;> first | rfl | cases h.1
theorem sst2 {x y : Str} {px py pt : Pos} {kt k2 : Nat} {pt2 : Pos} {a b : Expr} {env : PySem.Env} (hk : env.scope.kind = .function) (hx : env.scope.names.lookup x = some .local) (hy : env.scope.names.lookup y = some .local) (hxy : x ≠ y) (hl : (py.line == px.line) = true)
    (hf : [a, b].all (foldedForSure 8) = false) (hc : [a, b].all (constantsAlone 8) = false) (hs : [a, b].all nst = true) : swappedStores [.Tuple [.Name x px, .Name y py] kt pt] (.Tuple [a, b] k2 pt2) env = pure (some [x, y]) := by
  have kx : env.kindOf x = some .local := hx
  have ky : env.kindOf y = some .local := hy
  have hl' : py.line = px.line := by simpa using hl
  have e2 : ([x, y] : List Str).eraseDups = [x, y] := by
    have h1 : (y == x) = false := by simpa using Ne.symm hxy
    simp [List.eraseDups, List.eraseDupsBy, List.eraseDupsBy.loop, h1]
  have bk := blk_fn hk
  unfold swappedStores
  dsimp only
  rw [bk]
  generalize hn : List.filterMap _ [Expr.Name x px, Expr.Name y py] = names
  have en : names = [x, y] := by
    rw [← hn, List.filterMap_cons_some (b := x) (by simp [kx, Expr.pos]), List.filterMap_cons_some (b := y) (by simp [ky, hl', Expr.pos])]
    rfl
  subst en
  generalize hst : List.any [a, b] _ = q
  have eq : q = false := by rw [← hst]; exact no_star hs
  subst eq
  rw [e2, hf, hc]
  rfl
theorem sst3 {x y z : Str} {px py pz pt : Pos} {kt k2 : Nat} {pt2 : Pos} {a b c : Expr} {env : PySem.Env} (hk : env.scope.kind = .function) (hx : env.scope.names.lookup x = some .local) (hy : env.scope.names.lookup y = some .local) (hz : env.scope.names.lookup z = some .local) (hxy : x ≠ y) (hxz : x ≠ z) (hyz : y ≠ z)
    (hl : (py.line == px.line) = true) (hl2 : (pz.line == px.line) = true) (hf : [a, b, c].all (foldedForSure 8) = false) (hc : [a, b, c].all (constantsAlone 8) = false) (hs : [a, b, c].all nst = true) : swappedStores [.Tuple [.Name x px, .Name y py, .Name z pz] kt pt] (.Tuple [a, b, c] k2 pt2) env = pure (some [x, y, z]) := by
  have kx : env.kindOf x = some .local := hx
  have ky : env.kindOf y = some .local := hy
  have kz : env.kindOf z = some .local := hz
  have hl' : py.line = px.line := by simpa using hl
  have hl2' : pz.line = px.line := by simpa using hl2
  have e2 : ([x, y, z] : List Str).eraseDups = [x, y, z] := by
    have h1 : (y == x) = false := by simpa using Ne.symm hxy
    have h2 : (z == x) = false := by simpa using Ne.symm hxz
    have h3 : (z == y) = false := by simpa using Ne.symm hyz
    simp [List.eraseDups, List.eraseDupsBy, List.eraseDupsBy.loop, h1, h2, h3]
  have bk := blk_fn hk
  unfold swappedStores
  dsimp only
  rw [bk]
  generalize hn : List.filterMap _ [Expr.Name x px, Expr.Name y py, Expr.Name z pz] = names
  have en : names = [x, y, z] := by
    rw [← hn, List.filterMap_cons_some (b := x) (by simp [kx, Expr.pos]), List.filterMap_cons_some (b := y) (by simp [ky, hl', Expr.pos]), List.filterMap_cons_some (b := z) (by simp [kz, hl2', Expr.pos])]
    rfl
  subst en
  generalize hst : List.any [a, b, c] _ = q
  have eq : q = false := by rw [← hst]; exact no_star hs
  subst eq
  rw [e2, hf, hc]
  rfl
section
variable {Z0 : Zx} {Φ : Env} {cls : Nat → Value}
set_option maxHeartbeats 40000000 in
mutual
theorem sS : ∀ (r : S) {k : Ck} {X : Cx} {Z : Zx} {W : WX} (s : Stmt), Ks k X Z0 Z Φ cls W → okS k r s = true → PS X s (tSt Z W cls (rn Φ r))
  | .asg t e, k, X, Z, W, s, K, h => by
    unfold okS at h
    split at h
    · rename_i tg ex pos
      simp only [Bool.and_eq_true] at h
      obtain ⟨⟨h1, h2⟩, h3⟩ := h
      split at h3
      · rename_i hc
        simp only [Bool.and_eq_true] at h3
        have h4 := h3.2
        rw [Bool.or_eq_true] at h4
        refine s_asg (sE e _ K.kk h3.1) (sG K.kk t _ h1) (sws_no hc _ _ _) ?_ h2
        rcases h4 with h4 | h4
        · exact sst_no h4
        · exact sst_cell K.kk.sc h4
      · split at h3
        · rename_i y py elt tg' iter ifs asy scope lpos i cl t' it q e' hnc
          simp only [Bool.and_eq_true, decide_eq_true_eq] at h3
          obtain ⟨⟨⟨⟨⟨⟨⟨⟨⟨g1, g2⟩, g3⟩, rfl⟩, g5⟩, g6⟩, g7⟩, g8⟩, g9⟩, g10⟩ := h3
          have hyl : X.env.scope.names.lookup y = some .local := by rw [K.kk.sc]; exact g1
          have hi : X.N[i]? = some y := by
            unfold okG at h1
            simp only [Bool.and_eq_true, decide_eq_true_eq] at h1
            exact nN K.kk h1.1
          refine s_setLc K.kk.su (own := ownOf k.C.N (tgS t')) hi hyl (sw_true K.kind hyl g2 (by simpa using g3)) (sI it _ _ K.kk g5) ?_ (own_eq _ _) (fun D s H C cl fp => sG (K.kk.blk D s H _ C cl fp) t' _ g7) (fun D s H C cl fp => sQ q _ (K.kk.blk D s H _ C cl fp) g8) (fun D s H C cl fp => sE e' _ (K.kk.blk D s H _ C cl fp) g9) g10
          rw [K.kk.su.hN, K.kk.sc]
          exact blkOk_by g6
        · cases h3
    · cases h
  | .par ts es, k, X, Z, W, s, K, h => by
    unfold okS at h
    split at h
    · rename_i x px y py kt pt vs k2 pt2 pos
      split at h
      · rename_i i j
        simp only [Bool.and_eq_true] at h
        obtain ⟨h1, h2⟩ := h
        unfold par2 at h1
        simp only [Bool.and_eq_true, decide_eq_true_eq, Bool.not_eq_true'] at h1
        obtain ⟨⟨⟨⟨⟨⟨⟨⟨⟨⟨g1, g2⟩, g3⟩, g4⟩, g5⟩, g6⟩, g7⟩, g8⟩, g9⟩, g10⟩, g11⟩ := h1
        match vs, g11, g8, g9, g10, h2 with
        | [a, b], _, g8, g9, g10, h2 =>
          have hx : X.env.scope.names.lookup x = some .local := by rw [K.kk.sc]; exact g4
          have hy : X.env.scope.names.lookup y = some .local := by rw [K.kk.sc]; exact g5
          exact s_par2 K.kk.su (nN K.kk g1) (nN K.kk g2) g3 hx hy (sEs es _ K.kk h2) (sst2 K.kind hx hy g6 g7 g8 g9 g10)
      · cases h
    · rename_i x px y py z pz kt pt vs k2 pt2 pos
      split at h
      · rename_i i j l
        simp only [Bool.and_eq_true] at h
        obtain ⟨h1, h2⟩ := h
        unfold par3 at h1
        simp only [Bool.and_eq_true, decide_eq_true_eq, Bool.not_eq_true'] at h1
        obtain ⟨⟨⟨⟨⟨⟨⟨⟨⟨⟨⟨⟨⟨⟨⟨⟨⟨g1, g2⟩, g3⟩, g4⟩, g5⟩, g6⟩, g7⟩, g8⟩, g9⟩, g10⟩, g11⟩, g12⟩, g13⟩, g14⟩, g15⟩, g16⟩, g17⟩, g18⟩ := h1
        match vs, g18, g15, g16, g17, h2 with
        | [a, b, c], _, g15, g16, g17, h2 =>
          have hx : X.env.scope.names.lookup x = some .local := by rw [K.kk.sc]; exact g7
          have hy : X.env.scope.names.lookup y = some .local := by rw [K.kk.sc]; exact g8
          have hz : X.env.scope.names.lookup z = some .local := by rw [K.kk.sc]; exact g9
          exact s_par3 K.kk.su (nN K.kk g1) (nN K.kk g2) (nN K.kk g3) g4 g5 g6 hx hy hz (sEs es _ K.kk h2) (sst3 K.kind hx hy hz g10 g11 g12 g13 g14 g15 g16 g17)
      · cases h
    · cases h
  | .aug i o e, k, X, Z, W, s, K, h => by
    unfold okS at h
    split at h
    · simp only [Bool.and_eq_true, Bool.or_eq_true, decide_eq_true_eq] at h
      obtain ⟨⟨⟨⟨rfl, h1⟩, h2⟩, h3⟩, h4⟩ := h
      obtain ⟨l1, l2⟩ := loc_of K.kk h3
      refine s_aug K.kk.su ?_ (nN K.kk h2) l1 (sE e _ K.kk h4) l2
      cases o <;> first | exact .inl rfl | exact .inr rfl | (rcases h1 with h1 | h1 <;> cases h1)
    · cases h
  | .put eo ei e, k, X, Z, W, s, K, h => by
    unfold okS at h
    split at h
    · simp only [Bool.and_eq_true] at h
      obtain ⟨⟨⟨h1, h2⟩, h3⟩, h4⟩ := h
      exact s_put K.kk.su (sE e _ K.kk h3) (sE eo _ K.kk h1) (sE ei _ K.kk h2) (sw_tgt (by rfl)) h4
    · cases h
  | .cut eo el eh e, k, X, Z, W, s, K, h => by
    unfold okS at h
    split at h
    · simp only [Bool.and_eq_true] at h
      obtain ⟨⟨⟨h1, h2⟩, h3⟩, h4⟩ := h
      exact s_cut K.kk.su (sE e _ K.kk h4) (sE eo _ K.kk h1) (sE el _ K.kk h2) (sE eh _ K.kk h3) (sw_tgt (by rfl))
    · cases h
  | .augp _ _ _ _, k, X, Z, W, s, K, h => by unfold okS at h; cases h
  | .app eo e, k, X, Z, W, s, K, h => by
    unfold okS at h
    split at h
    · simp only [Bool.and_eq_true, decide_eq_true_eq] at h
      obtain ⟨⟨⟨⟨⟨rfl, h1⟩, h2⟩, h3⟩, h4⟩, h5⟩ := h
      exact s_app K.kk.su (sE eo _ K.kk h1) (sE e _ K.kk h2) h3 h4 h5
    · cases h
  | .drop e, k, X, Z, W, s, K, h => by
    unfold okS at h
    split at h
    · simp only [Bool.and_eq_true] at h
      exact s_drop (sE e _ K.kk h.1) (sw_no h.2 _ _ _)
    · cases h
  | .ret e, k, X, Z, W, s, K, h => by
    unfold okS at h
    split at h
    · exact s_ret (sE e _ K.kk h)
    · cases h
  | .retn, k, X, Z, W, s, K, h => by
    unfold okS at h
    split at h
    · exact s_retn
    · cases h
  | .ite c a b, k, X, Z, W, s, K, h => by
    unfold okS at h
    split at h
    · simp only [Bool.and_eq_true] at h
      exact s_ite (sT c _ K.kk h.1.1) (sSs a _ K h.1.2) (sSs b _ K h.2)
    · cases h
  | .for t it b, k, X, Z, W, s, K, h => by
    unfold okS at h
    split at h
    · simp only [Bool.and_eq_true] at h
      exact s_for K.kk.su K.po (sI it _ _ K.kk h.1.1.2) (sG K.kk t _ h.1.1.1) (sSs b _ K h.1.2) h.2
    · cases h
  | .whl c b, k, X, Z, W, s, K, h => by
    unfold okS at h
    split at h
    · simp only [Bool.and_eq_true] at h
      exact s_whl K.po (sT c _ K.kk h.1) (sSs b _ K h.2)
    · cases h
  | .brk, k, X, Z, W, s, K, h => by
    unfold okS at h
    split at h
    · exact s_brk
    · cases h
  | .ct, k, X, Z, W, s, K, h => by
    unfold okS at h
    split at h
    · exact s_ct
    · cases h
  | .pass, k, X, Z, W, s, K, h => by
    unfold okS at h
    split at h
    · exact s_pass
    · cases h
  | .rai j, k, X, Z, W, s, K, h => by
    unfold okS at h
    split at h
    · simp only [Bool.and_eq_true, decide_eq_true_eq] at h
      exact s_rai K.kk.su (K.exc j _ h.1.1 (gl_of K.kk h.1.2) (dbg_of h.2).1 _ _ _ _ _)
    · cases h
  | .tryr e hh b, k, X, Z, W, s, K, h => by
    unfold okS at h
    split at h
    · simp only [Bool.and_eq_true, decide_eq_true_eq] at h
      obtain ⟨⟨⟨⟨h1, h2⟩, h3⟩, h4⟩, h5⟩ := h
      split at h5
      · exact m_try K.kk K.st.1 K.st.2 (K.exn _ _ h2 (gl_of K.kk h3) (dbg_of h4).1) (K.exm _ _ h2) (of_decide_eq_true h5) fun pn xe W' tk => sE e _ (K.kk.tr pn xe tk) h1
      · cases h5
    · cases h
theorem sSs : ∀ (r : Ss) {k : Ck} {X : Cx} {Z : Zx} {W : WX} (l : List Stmt), Ks k X Z0 Z Φ cls W → okSs k r l = true → PSs X l (tSt Z W cls (rns Φ r))
  | .nil, k, X, Z, W, l, K, h => by
    unfold okSs at h
    split at h
    · exact s_nil
    · cases h
  | .cons s r, k, X, Z, W, l, K, h => by
    unfold okSs at h
    split at h
    · simp only [Bool.and_eq_true] at h
      exact s_cons (sS s _ K h.1) (sSs r _ K h.2)
    · cases h
end
theorem sB (b : Ss) {k : Ck} {X : Cx} {Z : Zx} {W : WX} (l : List Stmt) (K : Ks k X Z0 Z Φ cls W) (h : okB k b l = true) : PSs X l (tSt Z W cls (rns Φ b)) := by
  unfold okB at h
  split at h
  · exact s_doc (sSs b _ K h)
  · exact sSs b _ K h
end
end Mi
set_option Elab.async false
set_option linter.all false
set_option maxRecDepth 100000
set_option maxHeartbeats 4000000
/-! Mz: the law's own call: the script, tables of code objects and dicts of the program's top are tracked. -/
namespace Mi
open PySem PySem.Spec PyProof.Rows L2 LamX
/-- a thing of the top that is tracked: where, as what, its object -/
structure Tk (P : Program) (w : World) (h : Heap) (K : PySem.W.Frag) (p : Addr × HO × Obj) : Prop where
  at_ : h.get? p.1 = some p.2.2
  nk : K.lookup p.1 = none
  ok : ∀ H, (∀ q xs, H q = some (.tup xs) → False) → ObjOk P w H h p.1 p.2.1
  kind : (p.2.1 = .tbl #[] ∧ p.2.2 = { cls := .none, data := .fields #[] } ∧ ∃ c, PySem.W.CodeHd h c p.1) ∨ ∃ kvs es n, p.2.1 = .frz p.2.2 (.dK kvs) ∧ p.2.2.data = .dict es n
  far : p.1 ≠ mainGlobals ∧ p.1 ≠ builtinsNs ∧ p.1 ≠ cStatics
/-- the abstract heap at the law's call -/
def startH (a : Addr) (vs : List Value) (ns : List Int) (K : PySem.W.Frag) (L : List (Addr × HO × Obj)) : Hp := fun b =>
  if b = a ∧ K.lookup a = none then some (.frz { cls := .type "list", data := .seq vs.toArray } (.lst (ns.map V.int))) else (L.lookup b).map (·.1)
theorem lookup_of_mem {α : Type} : ∀ {L : List (Addr × α)} {p : Addr × α}, (L.map (·.1)).Nodup → p ∈ L → L.lookup p.1 = some p.2
  | (b, y) :: L, p, h, hp => by
    rw [List.map_cons, List.nodup_cons] at h
    rcases List.mem_cons.mp hp with e | e
    · subst e
      simp [List.lookup]
    · have hne : (p.1 == b) = false := by
        refine beq_eq_false_iff_ne.mpr fun z => h.1 ?_
        rw [← z]
        exact List.mem_map.mpr ⟨p, e, rfl⟩
      rw [List.lookup, hne]
      exact lookup_of_mem h.2 e
theorem mem_of_look {α : Type} : ∀ {L : List (Addr × α)} {b : Addr} {q : α}, L.lookup b = some q → (b, q) ∈ L
  | [], _, _, h => by cases h
  | (c, y) :: L, b, q, h => by
    unfold List.lookup at h
    split at h
    · rename_i e
      cases h
      have : b = c := by simpa using e
      rw [this]
      exact List.mem_cons_self
    · exact List.mem_cons_of_mem _ (mem_of_look h)
theorem law_callG {P : Program} {w : World} {K : PySem.W.Frag} {mg mb : Str → Option Value} {CX : CXT} {k : Nat} {fa a : Addr} {L : List (Addr × HO × Obj)} {fd : FuncData} {x : Str} {sp : Sp} {s₁ : Shared} {vs : List Value} {ns : List Int}
    (KX : K.In s₁.heap) (hns : s₁.heap.Ns mainGlobals mg) (hb : s₁.heap.Ns builtinsNs mb) (hbb : ∀ x : Str, x ≠ "__name__" → mb x = bootBuiltins x) (hlim : s₁.heap.NoLimit) (hg : s₁.gens = #[])
    (hL : ∀ p ∈ L, Tk P w s₁.heap K p) (nd : (L.map (·.1)).Nodup)
    (ha : s₁.heap.get? a = some { cls := .type "list", data := .seq vs.toArray }) (hi : IntsAre vs ns) (hl : ns.length ≤ sizeLine) (hr : Room k callerA)
    (hbm : ∃ (bm : Addr) (ob : Obj), mg "__builtins__" = some (.ref bm) ∧ bm ≠ builtinsNs ∧ s₁.heap.get? bm = some ob ∧ ob.cls = .type "module" ∧ ob.dict = some builtinsNs ∧ ob.data = .plain)
    (F : ∀ base : Heap, K.In base → base.Ns mainGlobals mg → (∀ c, ∀ p ∈ L, p.2.1 = .tbl #[] → PySem.W.CodeHd s₁.heap c p.1 → GxR.TabB base mg c p.1) → FnOk P w K mg base CX k fa fd [x] sp) (hbind : ∀ (s : Shared) (u : Value), BindsTo s fd ⟨[u], []⟩ [(x, u)])
    (hsp : ∀ H : Hp, (∀ p ∈ L, H p.1 = some p.2.1) → SqL K H a (ns.map V.int) → (∀ p ∈ L, p.1 ≠ a) → sp [.ref a] H (fun v _ => v = .bl true) fun _ _ _ => False)
    (hCX : ∀ H e s', CX [] H s₁ (fun _ _ _ => False) e s' → False) :
    codeAny (model P w) callerA (.call (.ref fa) ⟨[.ref a], []⟩) (fun r s' => r = .ok (.ret (.bool true)) ∧ OldK s₁.heap s'.heap ∧ s'.os = s₁.os ∧ AllBare s'.gens) s₁ := by
  have rv := vals_ints hi
  have lenV := hi.length
  have aL : ∀ p ∈ L, p.1 ≠ a := fun p hp z => by
    have e := (hL p hp).at_
    rw [z, ha] at e
    have e' := Option.some.inj e
    rcases (hL p hp).kind with ⟨_, q, _⟩ | ⟨_, _, _, _, q⟩
    · rw [q] at e'
      have := congrArg Obj.data e'
      cases this
    · rw [← e'] at q
      cases q
  generalize hH : startH a vs ns K L = H
  have HL : ∀ p ∈ L, H p.1 = some p.2.1 := fun p hp => by
    rw [← hH]
    unfold startH
    rw [if_neg (fun z => aL p hp z.1), lookup_of_mem nd hp]
    rfl
  have Hof : ∀ b u, H b = some u → (b = a ∧ K.lookup a = none ∧ u = .frz { cls := .type "list", data := .seq vs.toArray } (.lst (ns.map V.int))) ∨ ∃ p ∈ L, b = p.1 ∧ u = p.2.1 := fun b u e => by
    rw [← hH] at e
    unfold startH at e
    split at e
    · rename_i h
      cases e
      exact .inl ⟨h.1, h.2, rfl⟩
    · right
      cases hq : L.lookup b with
      | none => rw [hq] at e; cases e
      | some q =>
        rw [hq] at e
        cases e
        exact ⟨(b, q), mem_of_look hq, rfl, rfl⟩
  have noTup : ∀ q xs, H q = some (.tup xs) → False := fun q xs e => by
    rcases Hof q _ e with ⟨_, _, z⟩ | ⟨p, hp, _, z⟩
    · cases z
    · rcases (hL p hp).kind with ⟨z2, _⟩ | ⟨_, _, _, z2, _⟩
      · rw [z2] at z; cases z
      · rw [z2] at z; cases z
  have hok : HOk P w H s₁.heap := fun b u e => by
    rcases Hof b u e with ⟨rfl, _, rfl⟩ | ⟨p, hp, rfl, rfl⟩
    · exact ⟨ha, by rw [List.length_map]; exact hl, vs, _, rv, ha⟩
    · exact (hL p hp).ok H noTup
  have hS : SqL K H a (ns.map V.int) := by
    cases hk : K.lookup a with
    | some o =>
      have e := KX a o hk
      rw [ha] at e
      cases e
      exact .inr ⟨_, vs.toArray, _, hk, rfl, rfl, rfl, by rw [List.size_toArray, lenV]; exact hl, by simpa using rv⟩
    | none =>
      refine .inl (.inr ⟨{ cls := .type "list", data := .seq vs.toArray }, ?_⟩)
      rw [← hH]
      unfold startH
      rw [if_pos ⟨rfl, hk⟩]
  -- what is not tracked
  have nsK : ∀ {b : Addr} {m : Str → Option Value}, (∀ p ∈ L, p.1 ≠ b) → s₁.heap.Ns b m → (hidT s₁.heap H).Ns b m := fun {b m} hb ⟨o, es, ep, e, d, r⟩ => by
    refine ⟨o, es, ep, hidT_get e ?_, d, r⟩
    cases q : H b with
    | none => rfl
    | some u =>
      rcases Hof b u q with ⟨rfl, _, _⟩ | ⟨p, hp, z, _⟩
      · rw [ha] at e
        cases e
        cases d
      · exact absurd z.symm (hb p hp)
  have hKb : K.In (hidT s₁.heap H) := fun b o e => by
    refine hidT_get (KX b o e) ?_
    cases q : H b with
    | none => rfl
    | some u =>
      rcases Hof b u q with ⟨rfl, z, _⟩ | ⟨p, hp, z, _⟩
      · rw [z] at e; cases e
      · rw [z, (hL p hp).nk] at e; cases e
  have hM : L2.Mod K mg (hidT s₁.heap H) := ⟨hKb, nsK (fun p hp => (hL p hp).far.1) hns, ⟨mb, nsK (fun p hp => (hL p hp).far.2.1) hb, hbb⟩, let ⟨mc, h1, h2⟩ := hlim; ⟨mc, nsK (fun p hp => (hL p hp).far.2.2) h1, h2⟩⟩
  have noD : ∀ {b : Addr} {o : Obj}, s₁.heap.get? b = some o → (∀ vs n, o.data ≠ .seq vs n) → o.data ≠ .fields #[] → (∀ es n, o.data ≠ .dict es n) → H b = none := fun {b o} e h1 h2 h3 => by
    cases q : H b with
    | none => rfl
    | some u =>
      rcases Hof b u q with ⟨rfl, _, _⟩ | ⟨p, hp, rfl, _⟩
      · rw [ha] at e
        cases e
        exact (h1 _ _ rfl).elim
      · have e1 := (hL p hp).at_
        rw [e] at e1
        cases e1
        rcases (hL p hp).kind with ⟨_, z, _⟩ | ⟨_, es, n, _, z⟩
        · exact (h2 (by rw [z])).elim
        · exact (h3 _ _ z).elim
  have TB : ∀ c, ∀ p ∈ L, p.2.1 = .tbl #[] → PySem.W.CodeHd s₁.heap c p.1 → GxR.TabB (hidT s₁.heap H) mg c p.1 := fun c p hp ht C => by
    have hTp : s₁.heap.get? p.1 = some { cls := .none, data := .fields #[] } := by
      rcases (hL p hp).kind with ⟨_, z, _⟩ | ⟨_, _, _, z, _⟩
      · rw [(hL p hp).at_, z]
      · rw [z] at ht; cases ht
    refine ⟨?_, ?_, (hL p hp).far.1.symm⟩
    · obtain ⟨o, us, file, tf, flags, tg, inF, text, tt, e1, r1, r2, r3, r4, r5, r6, r7, r8, hne⟩ := C
      refine ⟨o, us, file, tf, flags, tg, inF, text, tt, hidT_get e1 (noD e1 (fun vs n z => ?_) (fun z => ?_) fun es n z => ?_), r1, r2, r3, r4, r5, r6, r7, r8, hne⟩
      · rw [r2] at z; cases z
      · rw [r2] at z
        cases z
        simp at r3
      · rw [r2] at z; cases z
    · obtain ⟨bm, ob, b1, b2, b3, b4, b5, b6⟩ := hbm
      have nG : bm ≠ mainGlobals := fun q => by
        obtain ⟨o, es, ep, e, hd, _⟩ := hns
        rw [q, e] at b3
        cases b3
        rw [hd] at b6
        cases b6
      have nP : bm ≠ p.1 := fun q => by
        rw [q, hTp] at b3
        cases b3
        cases b6
      refine ⟨bm, ob, b1, b2, nG, nP, hidT_get b3 (noD b3 (fun vs n z => ?_) (fun z => ?_) fun es n z => ?_), b4, b5, b6⟩ <;> (rw [b6] at z; cases z)
  have e0 : Env0 P w K mg (hidT s₁.heap H) callerA [] s₁ H := ⟨rfl, hM, fun b o e => of_hidT e, Nat.le_of_eq (hidT_size _ _), trivial, fun b hb => absurd (show b ∈ ([] : List Addr) from hb) (by simp), hok, .of_eq hg⟩
  refine codeAny_mono ((F _ hKb (nsK (fun p hp => (hL p hp).far.1) hns) TB).run callerA [] s₁ H ⟨[.ref a], []⟩ [.ref a] [.ref a] _ _ hr e0 (hbind s₁ (.ref a)) (.cons rfl .nil) (hsp H HL hS aL)) fun r s' h => ?_
  cases r with
  | error e => exact (hCX H e s' h).elim
  | ok fl =>
    cases fl with
    | next => exact False.elim h
    | brk => exact False.elim h
    | cont => exact False.elim h
    | ret u =>
      obtain ⟨v, H', os, bare, un, hok', r', q⟩ := h
      have q' : v = .bl true := q
      subst q'
      obtain rfl : u = Value.bool true := r'
      have key : ∀ b o, s₁.heap.get? b = some o → s'.heap.get? b = some o ∨ ∃ p ∈ L, b = p.1 ∧ p.2.1 = .tbl #[] := fun b o e => by
        cases q : H b with
        | none => exact .inl (un.keep b o e q (by intro z; exact absurd (show b ∈ ([] : List Addr) from z) (by simp)) (by simp))
        | some u =>
          have fr : ∀ ob xs, H b = some (.frz ob xs) → s'.heap.get? b = some o := fun ob xs z => by
            have z2 := un.frzs b ob _ z
            obtain ⟨e1, _⟩ := hok b _ z
            obtain ⟨e2, _⟩ := hok' b _ z2
            rw [e] at e1
            cases e1
            exact e2
          rcases Hof b u q with ⟨_, _, z⟩ | ⟨p, hp, z, z2⟩
          · exact .inl (fr _ _ (q.trans (congrArg some z)))
          · rcases (hL p hp).kind with ⟨k1, _⟩ | ⟨kvs, es, n, k1, _⟩
            · exact .inr ⟨p, hp, z, k1⟩
            · exact .inl (fr _ _ (q.trans (congrArg some (z2.trans k1))))
      have grown : ∀ p ∈ L, p.2.1 = .tbl #[] → ∃ more : Array Value, s'.heap.get? p.1 = some { cls := .none, data := .fields more } := fun p hp z => by
        obtain ⟨more, z3⟩ := un.tbls p.1 #[] ((HL p hp).trans (congrArg some z))
        exact ⟨_, hok' p.1 _ z3⟩
      refine ⟨rfl, ⟨fun b o e => ?_, fun b o e => ?_⟩, os, bare⟩
      · rcases key b o e with z | ⟨p, hp, rfl, z⟩
        · exact .inl z
        · obtain ⟨more, hm⟩ := grown p hp z
          rcases (hL p hp).kind with ⟨_, k2, c, C⟩ | ⟨kvs, es, n, k1, _⟩
          · have e1 := (hL p hp).at_
            rw [e] at e1
            cases e1
            rw [k2] at e ⊢
            exact .inr (.inl ⟨(C.tab e).isCodeTable, rfl, #[], more, rfl, by rw [Array.empty_append]; exact hm⟩)
          · rw [z] at k1; cases k1
      · rcases key b o e with z | ⟨p, hp, rfl, z⟩
        · exact ⟨o, z⟩
        · obtain ⟨more, hm⟩ := grown p hp z
          exact ⟨_, hm⟩
end Mi
set_option Elab.async false
set_option linter.all false
set_option maxRecDepth 100000
set_option maxHeartbeats 4000000
/-! Ma: what the head tells: defs, names, own facts, tables of code objects, and dicts of the top that are left out of K. -/
namespace Mi
open PySem PySem.Spec PyProof.Rows L2 He
mutual
/-- the tree d stands at u in K -/
def repIn (K : PySem.W.Frag) : D → Value → Bool
  | .non, u => (match u with
    | .none => true
    | _ => false)
  | .bl b, u => (match u with
    | .bool c => b == c
    | _ => false)
  | .int i, u => (match u with
    | .int j _ => decide (i = j)
    | _ => false)
  | .str s, u => (match u with
    | .str x _ => decide (x.cps.toList = s)
    | _ => false)
  | .tup _ ds, u => (match u with
    | .ref a => (match K.lookup a with
      | some ⟨.type c, none, .seq its _, _⟩ => decide (c = "tuple") && decide (its.size ≤ 10000) && repsIn K ds its.toList
      | _ => false)
    | _ => false)
  | _, _ => false
def repsIn (K : PySem.W.Frag) : List D → List Value → Bool
  | [], us => us.isEmpty
  | d :: ds, us => (match us with
    | u :: us => repIn K d u && repsIn K ds us
    | [] => false)
end
mutual
theorem rep_in {K : PySem.W.Frag} : ∀ (d : D) {u : Value}, repIn K d u = true → ∃ v, RelV v u ∧ ∀ Z ρ H, Z.K = K → Rep Z ρ H d v
  | .non, u, h => by
    unfold repIn at h
    split at h
    · exact ⟨.non, rfl, fun _ _ _ _ => .non⟩
    · cases h
  | .bl b, u, h => by
    unfold repIn at h
    split at h
    · exact ⟨.bl b, by rw [beq_iff_eq.mp h] <;> rfl, fun _ _ _ _ => .bl b⟩
    · cases h
  | .int i, u, h => by
    unfold repIn at h
    split at h
    · have e := of_decide_eq_true h
      subst e
      exact ⟨.int i, ⟨_, rfl⟩, fun _ _ _ _ => .int i⟩
    · cases h
  | .str s, u, h => by
    unfold repIn at h
    split at h
    · rename_i x t
      have e := of_decide_eq_true h
      subst e
      exact ⟨.str (mkS x.cps.toList), ⟨_, rfl⟩, fun _ _ _ _ => .str _⟩
    · cases h
  | .tup k ds, u, h => by
    unfold repIn at h
    split at h
    · rename_i a
      split at h
      · rename_i c its n sl hl
        simp only [Bool.and_eq_true, decide_eq_true_eq] at h
        obtain ⟨⟨hc, hs⟩, hr⟩ := h
        obtain ⟨vs, hv, rv⟩ := reps_in ds hr
        subst hc
        refine ⟨.ref a, rfl, fun Z ρ H hK => .tup (.inr ⟨_, its, n, by rw [hK]; exact hl, rfl, rfl, by rw [sizeLine_eq]; omega, hv⟩) (fun _ => .inr ⟨_, by rw [hK]; exact hl, rfl⟩) (rv Z ρ H hK)⟩
      · cases h
    · cases h
  | .lst _, _, h => by unfold repIn at h; cases h
  | .scr _, _, h => by unfold repIn at h; cases h
  | .dic _ _, _, h => by unfold repIn at h; cases h
  | .ref _, _, h => by unfold repIn at h; cases h
  | .clo _, _, h => by unfold repIn at h; cases h
  | .ins _ _ _, _, h => by unfold repIn at h; cases h
theorem reps_in {K : PySem.W.Frag} : ∀ (ds : List D) {us : List Value}, repsIn K ds us = true → ∃ vs, Vals vs us ∧ ∀ Z ρ H, Z.K = K → Reps Z ρ H ds vs
  | [], us, h => by
    unfold repsIn at h
    cases us with
    | nil => exact ⟨[], .nil, fun _ _ _ _ => .nil⟩
    | cons u us => cases h
  | d :: ds, us, h => by
    unfold repsIn at h
    cases us with
    | nil => cases h
    | cons u us =>
      simp only [Bool.and_eq_true] at h
      obtain ⟨v, r1, r2⟩ := rep_in d h.1
      obtain ⟨vs, r3, r4⟩ := reps_in ds h.2
      exact ⟨v :: vs, .cons r1 r3, fun Z ρ H hK => .cons (r2 Z ρ H hK) (r4 Z ρ H hK)⟩
end
/-- a dict of the top: its name, its keys and values -/
abbrev Dn := Str × List (Str × D)
def gAd (K : PySem.W.Frag) (x : Str) : Addr := match PySem.W.nsIn K mainGlobals x with
  | some (some (.ref a)) => a
  | _ => 0
/-- the part of the heap that is known: no empty table, none of the dicts ds -/
def frM (F : PySem.W.Frag) (ds : List Addr) : PySem.W.Frag := F.filter fun q => !emptyTab q.2 && !ds.contains q.1
def adM (g : Addr → Option Obj) (n : Nat) (tk : List Dn) : List Addr := tk.map fun t => gAd (frG g (asD g n)) t.1
def KM (g : Addr → Option Obj) (n : Nat) (tk : List Dn) : PySem.W.Frag := frM (frG g (asD g n)) (adM g n tk)
/-- the keys with their hashes -/
def dicG (o : Option Obj) (a : Addr) : Option (List (Option (Str × Int))) := match o with
  | some ⟨.type c, none, .dict es _, sl⟩ => (match decide (c = "dict") && (sl.isEmpty && !(a == sysModules)) with
    | true => some (es.toList.map He.keyOf)
    | false => none)
  | _ => none
def valsG (K : PySem.W.Frag) (o : Option Obj) (kvs : List (Str × D)) : Bool := match o with
  | some ⟨_, _, .dict es _, _⟩ => repsIn K (kvs.map (·.2)) (es.toList.map (·.val))
  | _ => false
def dictM (g : Addr → Option Obj) (K : PySem.W.Frag) (t : Dn) (a : Addr) : Bool :=
  eqO (PySem.W.nsIn K mainGlobals t.1) (some (some (.ref a))) && valsG K (g a) t.2 && decide (a ≠ mainGlobals) && decide (a ≠ builtinsNs) && decide (a ≠ cStatics) && decide ((t.2.map (·.1)).Nodup) && decide (t.2.length ≤ 10000)
abbrev AlM : Type := AlD × Bool × List (Option (List (Option (Str × Int))))
/-- the defs' tables -/
def tbM (K : PySem.W.Frag) (fn : List DefD) : List Addr := fn.map fun d => (cT K d.at_).2
def farB (a : Addr) : Bool := decide (a ≠ mainGlobals) && decide (a ≠ builtinsNs) && decide (a ≠ cStatics)
def obsM (n : Nat) (fa : List Fa) (fn : List DefD) (tk : List Dn) (ex : PySem.W.Frag → Bool) (g : Addr → Option Obj) : AlM :=
  (obsD fa fn (KM g n tk), ex (KM g n tk) && ((tk.zip (adM g n tk)).all fun p => dictM g (KM g n tk) p.1 p.2) && decide (tbM (KM g n tk) fn ++ adM g n tk).Nodup && tabsB g (fn.map (·.at_)) (KM g n tk) && (tbM (KM g n tk) fn).all farB, (adM g n tk).map fun a => dicG (g a) a)
def valM (fn : List DefD) (tk : List Dn) (w : World) : AlM := (valD fn, true, tk.map fun t => some (keysIn w.params (t.2.map (·.1))))
/-- what is told -/
structure SaysM (fa : List Fa) (fn : List DefD) (tk : List Dn) (ex : PySem.W.Frag → Bool) (w : World) (h : Heap) (K : PySem.W.Frag) (as : List Addr) : Prop where
  d : SaysD fa fn K
  more : ex K = true
  len : as.length = tk.length
  nd : (tbM K fn ++ as).Nodup
  hd : ∀ d ∈ fn, PySem.W.codeHdIn K (cT K d.at_).1 (cT K d.at_).2 = true
  out : ∀ d ∈ fn, K.lookup (cT K d.at_).2 = none
  empty : ∀ d ∈ fn, h.get? (cT K d.at_).2 = some { cls := .none, data := .fields #[] }
  far : ∀ d ∈ fn, (cT K d.at_).2 ≠ mainGlobals ∧ (cT K d.at_).2 ≠ builtinsNs ∧ (cT K d.at_).2 ≠ cStatics
  at_ : ∀ (i : Nat) (t : Dn) (a : Addr), tk[i]? = some t → as[i]? = some a → PySem.W.nsIn K mainGlobals t.1 = some (some (.ref a)) ∧ K.lookup a = none ∧ (a ≠ mainGlobals ∧ a ≠ builtinsNs ∧ a ≠ cStatics) ∧ (t.2.map (·.1)).Nodup ∧ t.2.length ≤ 10000 ∧
    ∃ es n, h.get? a = some { cls := .type "dict", data := .dict es n } ∧ (a == sysModules) = false ∧ es.toList.map He.keyOf = keysIn w.params (t.2.map (·.1)) ∧ repsIn K (t.2.map (·.2)) (es.toList.map (·.val)) = true
theorem frM_in {as ds : List Addr} {h : Heap} : (frM (frG h.get? as) ds).In h := fun a o e => by
  have hm := lookup_mem e
  unfold frM at hm
  obtain ⟨h1, _⟩ := List.mem_filter.mp hm
  exact frG_mem h1
theorem frM_out {F : PySem.W.Frag} {ds : List Addr} {a : Addr} (h : a ∈ ds) : (frM F ds).lookup a = none := by
  cases e : (frM F ds).lookup a with
  | none => rfl
  | some o =>
    have hm := lookup_mem e
    unfold frM at hm
    obtain ⟨_, h2⟩ := List.mem_filter.mp hm
    simp at h2
    exact absurd h h2.2
theorem frM_tab {as ds : List Addr} {g : Addr → Option Obj} {a : Addr} {o : Obj} (hg : g a = some o) (ht : emptyTab o = true) : (frM (frG g as) ds).lookup a = none := by
  cases e : (frM (frG g as) ds).lookup a with
  | none => rfl
  | some u =>
    have hm := lookup_mem e
    unfold frM at hm
    obtain ⟨h1, h2⟩ := List.mem_filter.mp hm
    have h3 := frG_mem h1
    rw [hg] at h3
    cases h3
    simp [ht] at h2
theorem dicG_ok {o : Option Obj} {a : Addr} {l : List (Option (Str × Int))} (h : dicG o a = some l) : ∃ es n, o = some { cls := .type "dict", data := .dict es n } ∧ (a == sysModules) = false ∧ es.toList.map He.keyOf = l := by
  unfold dicG at h
  split at h
  · rename_i c es n sl
    split at h
    · rename_i hb
      simp only [Bool.and_eq_true, decide_eq_true_eq, Bool.not_eq_true'] at hb
      obtain ⟨rfl, h2, h3⟩ := hb
      refine ⟨es, n, ?_, h3, Option.some.inj h⟩
      rw [Array.isEmpty_iff.mp h2]
    · cases h
  · cases h
theorem saysM_of {n : Nat} {fa : List Fa} {fn : List DefD} {tk : List Dn} {ex : PySem.W.Frag → Bool} {w : World} {h : Heap} (e : obsM n fa fn tk ex h.get? = valM fn tk w) : SaysM fa fn tk ex w h (KM h.get? n tk) (adM h.get? n tk) := by
  have e1 : obsD fa fn (KM h.get? n tk) = valD fn := congrArg (fun z : AlM => z.1) e
  have e2 : (ex (KM h.get? n tk) && ((tk.zip (adM h.get? n tk)).all fun p => dictM h.get? (KM h.get? n tk) p.1 p.2) && decide (tbM (KM h.get? n tk) fn ++ adM h.get? n tk).Nodup && tabsB h.get? (fn.map (·.at_)) (KM h.get? n tk) && (tbM (KM h.get? n tk) fn).all farB) = true := congrArg (fun z : AlM => z.2.1) e
  have e3 : (adM h.get? n tk).map (fun a => dicG (h.get? a) a) = tk.map fun t => some (keysIn w.params (t.2.map (·.1))) := congrArg (fun z : AlM => z.2.2) e
  rw [Bool.and_eq_true, Bool.and_eq_true, Bool.and_eq_true, Bool.and_eq_true] at e2
  obtain ⟨⟨⟨⟨h1, h2⟩, h3⟩, h4⟩, h5⟩ := e2
  have key : ∀ d ∈ fn, PySem.W.codeHdIn (KM h.get? n tk) (cT (KM h.get? n tk) d.at_).1 (cT (KM h.get? n tk) d.at_).2 = true ∧ ∃ o, h.get? (cT (KM h.get? n tk) d.at_).2 = some o ∧ emptyTab o = true := fun d hd => by
    obtain ⟨k1, k2⟩ := He.ba (List.all_eq_true.mp h4 d.at_ (List.mem_map.mpr ⟨d, hd, rfl⟩))
    refine ⟨k1, ?_⟩
    cases q : h.get? (cT (KM h.get? n tk) d.at_).2 with
    | none => rw [q] at k2; cases k2
    | some o => rw [q] at k2; exact ⟨o, rfl, k2⟩
  refine ⟨e1, h1, by simp [adM], of_decide_eq_true h3, fun d hd => (key d hd).1, fun d hd => ?_, fun d hd => ?_, fun d hd => ?_, fun i t a ht ha => ?_⟩
  · obtain ⟨_, o, q, z⟩ := key d hd
    exact frM_tab q z
  · obtain ⟨_, o, q, z⟩ := key d hd
    rw [q, emptyTab_eq z]
  · have := List.all_eq_true.mp h5 _ (List.mem_map.mpr ⟨d, hd, rfl⟩)
    unfold farB at this
    simp only [Bool.and_eq_true, decide_eq_true_eq] at this
    exact ⟨this.1.1, this.1.2, this.2⟩
  have hz : (tk.zip (adM h.get? n tk))[i]? = some (t, a) := by rw [List.getElem?_zip_eq_some]; exact ⟨ht, ha⟩
  have hd := List.all_eq_true.mp h2 _ (List.mem_of_getElem? hz)
  unfold dictM at hd
  simp only [Bool.and_eq_true, decide_eq_true_eq] at hd
  obtain ⟨⟨⟨⟨⟨⟨d1, d2⟩, d3⟩, d4⟩, d5⟩, d6⟩, d7⟩ := hd
  have e4 : dicG (h.get? a) a = some (keysIn w.params (t.2.map (·.1))) := by
    have := congrArg (fun l => l[i]?) e3
    simp only [List.getElem?_map, ht, ha, Option.map_some] at this
    exact Option.some.inj this
  obtain ⟨es, m, g1, g2, g3⟩ := dicG_ok e4
  rw [g1] at d2
  exact ⟨eqO_ok d1, frM_out (List.mem_of_getElem? ha), ⟨d3, d4, d5⟩, d6, d7, es, m, g1, g2, g3, d2⟩
def hookM (n : Nat) (fa : List Fa) (fn : List DefD) (tk : List Dn) (ex : PySem.W.Frag → Bool) : PySem.W.Hook where
  α := AlM
  obs := fun s => obsM n fa fn tk ex s.heap.get?
  val := fun w => valM fn tk w
  says := fun w h => ∃ (K : PySem.W.Frag) (as : List Addr), K.In h ∧ SaysM fa fn tk ex w h K as
  of := fun _ _ e => ⟨_, _, frM_in, saysM_of e⟩
  keeps := fun _ _ _ ⟨K, as, hK, c⟩ k => ⟨K, as, PySem.W.Frag.In.keeps hK k, ⟨c.d, c.more, c.len, c.nd, c.hd, c.out, fun d hd => k _ _ (c.empty d hd), c.far, fun i t a h1 h2 =>
    let ⟨a1, a2, a3, a4, a5, es, n, b1, b2⟩ := c.at_ i t a h1 h2
    ⟨a1, a2, a3, a4, a5, es, n, k _ _ b1, b2⟩⟩⟩
theorem obsM_eq {n : Nat} {fa : List Fa} {fn : List DefD} {tk : List Dn} {ex : PySem.W.Frag → Bool} {g : Addr → Option Obj} {s : Shared} (h : ∀ a, g a = s.heap.get? a) : obsM n fa fn tk ex g = (hookM n fa fn tk ex).obs s := by
  have e : g = s.heap.get? := funext h
  rw [e] <;> rfl
end Mi
set_option Elab.async false
set_option linter.all false
set_option maxRecDepth 100000
set_option maxHeartbeats 4000000
/-! Mb: all defs of a program keep their promises, level by level. -/
namespace Mi
open PySem PySem.Spec PyProof.Rows L2
structure Df where
  name : Str
  st : Stmt
  N : List Str
  ps : List Str
  keep : Bool
  cv : Bool
  /-- lambdas from lo on, below hi, are made here -/
  lo : Nat
  hi : Nat
  b : Ss
inductive Gv where
  | val (d : D) | dct (kvs : List (Str × D))
def Gv.d : Gv → D
  | .val d => d
  | .dct kvs => .dic (kvs.map fun q => .str q.1.cps.toList) (kvs.map (·.2))
structure Pk where
  defs : List Df
  fns : List (Str × Nat)
  globs : List Str
  gv : List Gv
  excs : List Str
  lams : List (List Str × E)
def Pk.gD (p : Pk) (i : Nat) : D := match p.gv[i]? with
  | some g => g.d
  | none => .non
def Pk.lc (p : Pk) : Cfg := { N := [], fns := p.fns, globs := p.globs, excs := p.excs, d := 0 }
def Pk.lamB (p : Pk) (lo hi : Nat) (j : Nat) (a : Arguments) (e : Expr) (s : Scope) : Bool := decide (lo ≤ j) && decide (j < hi) && lamChk p.lc p.lams j a e s
def Pk.cfg (p : Pk) (d : Df) : Cfg := { N := d.N, fns := p.fns, globs := p.globs, excs := p.excs, d := if d.lo < d.hi then 0 else 1, lam := p.lamB d.lo d.hi, cv := d.cv }
/-- the defs, callable n deep -/
def Pk.env (p : Pk) : Nat → Env
  | 0 => { fn := fun _ _ _ => .no, glob := p.gD, clo := fun _ _ => .no }
  | n + 1 => { fn := fun i as μ => (match p.defs[i]? with
      | some d => fun_ (p.env n) d.N.length d.keep d.b as μ
      | none => .no), glob := p.gD, clo := fun j μ => (match p.lams[j]? with
      | some l => ev (p.env n) l.2 (List.replicate l.1.length none) μ
      | none => .no) }
def Df.q (d : Df) : Str := d.name ++ ".<locals>." ++ "<lambda>"
/-- the lambda's own def -/
def Pk.own (p : Pk) (j : Nat) : Df := (p.defs.find? fun d => decide (d.lo ≤ j) && decide (j < d.hi)).getD ⟨"", .Pass ⟨0, 0, 0, 0⟩, [], [], false, false, 0, 0, .nil⟩
/-- what is known of the program's parts -/
structure PkOk (p : Pk) (P : Program) (w : World) (K : PySem.W.Frag) (mg : Str → Option Value) (base : Heap) (Z0 : Zx) (cls : Nat → Value) : Prop where
  hK : Z0.K = K
  fns : ∀ (i : Nat) (x : Str) (n : Nat), p.fns[i]? = some (x, n) → ∃ d : Df, p.defs[i]? = some d ∧ d.name = x ∧ d.ps.length = n
  df : ∀ d ∈ p.defs, ∃ (f : Addr) (fd : FuncData), FunD K d.name d.name (defArgs d.st) (defBody d.st) (defScope d.st) [] [] f fd ∧ mg d.name = some (.ref f) ∧ Binds K fd d.ps [] ∧
    ∃ c T, fd.code = .ref c ∧ GxR.TabB base mg c T ∧ T ∈ Z0.tb ∧ Z0.tq T = if d.lo < d.hi then some d.q else none
  sc : ∀ d ∈ p.defs, FnScope d.N d.ps (defScope d.st)
  ck : ∀ d ∈ p.defs, okB ⟨p.cfg d, defScope d.st, true⟩ d.b (defBody d.st) = true
  gl : ∀ (i : Nat) (x : Str), p.globs[i]? = some x → ∃ u, mg x = some u ∧ ∀ Z ρ H μ, ZP Z0 Z → MuOk Z ρ H μ → ∃ v, RelV v u ∧ Rep Z ρ H (p.gD i) v
  bl : ∀ x ∈ bnames, mg x = none
  exn : ∀ (j : Nat) (x : Str), p.excs[j]? = some x → mg x = some (cls j)
  exm : ∀ (j : Nat) (x : Str), p.excs[j]? = some x → ∀ d, PySem.W.exmOne K (cls d) (cls j) = some (decide (d = j))
  exc : ∀ (j : Nat) (x : Str), p.excs[j]? = some x → ∃ C, cls j = .ref C ∧ PySem.W.excIn K C He.veBase "ValueError.__new__" = true ∧ PySem.W.keepIn K (.ref C) = true ∧ PySem.W.subIn K (.ref C) (.type "BaseException") = some true ∧ PySem.W.typeIn K (.ref C) = some (.type "type")
  lnd : ∀ (j : Nat) (l : List Str × E), p.lams[j]? = some l → l.1.Nodup
  lfo : ∀ d ∈ p.defs, ∀ j, d.lo ≤ j → j < d.hi → (∀ a c, Z0.fo j a c = LamG (fun pa b s => p.lamB d.lo d.hi j pa b s = true) d.q a c) ∧ ∀ c, Z0.co j c = LamX.CodeO c d.q
  /-- a lambda is a def's -/
  lown : ∀ (j : Nat) (l : List Str × E), p.lams[j]? = some l → ∃ d ∈ p.defs, d.lo ≤ j ∧ j < d.hi
section
variable {p : Pk} {P : Program} {w : World} {K : PySem.W.Frag} {mg : Str → Option Value} {base : Heap} {Z0 : Zx} {cls : Nat → Value}
def OkAll (p : Pk) (P : Program) (w : World) (K : PySem.W.Frag) (mg : Str → Option Value) (base : Heap) (Z0 : Zx) (cls : Nat → Value) (n : Nat) : Prop :=
  ∀ (i : Nat) (d : Df), p.defs[i]? = some d → ∀ (f : Addr) (fd : FuncData), FunD K d.name d.name (defArgs d.st) (defBody d.st) (defScope d.st) [] [] f fd → mg d.name = some (.ref f) →
    FnOk P w K mg base (L2.CX P w) (2 * n) f fd d.ps (spM Z0 cls d.ps.length ((p.env n).fn i))
theorem zp_K {Z : Zx} (z : ZP Z0 Z) : Z.K = Z0.K := by
  obtain ⟨ex, rfl⟩ := z
  rfl
theorem ok_0 : OkAll p P w K mg base Z0 cls 0 := fun i d _ f fd _ _ => by
  refine ⟨fun vs H Q E ⟨Z, ρ, μ, ds, _, hn, _, r, _⟩ => by rw [← r.length]; exact hn, fun A outer s H args us vs Q E _ _ _ _ ⟨Z, ρ, μ, ds, _, _, _, _, q⟩ => ?_⟩
  exact False.elim q
theorem callee_of (G : PkOk p P w K mg base Z0 cls) {n : Nat} (h : OkAll p P w K mg base Z0 cls n) {X : Cx} (hX : X.prog = P ∧ X.w = w ∧ X.K = K ∧ X.mg = mg ∧ X.base = base) {dd : Nat} (hr : Room (2 * n + dd) X.A) (i : Nat) (x : Str) (m : Nat) (hi : p.fns[i]? = some (x, m)) :
    Callee X x dd (spM Z0 cls m ((p.env n).fn i)) := by
  obtain ⟨rfl, rfl, rfl, rfl, rfl⟩ := hX
  obtain ⟨d, hd, rfl, rfl⟩ := G.fns i x m hi
  obtain ⟨f, fd, F, hm, hb, _⟩ := G.df d (List.mem_of_getElem? hd)
  exact ⟨f, fd, d.ps, 2 * n, h i d hd f fd F hm, hr, hm, F.kp, hb⟩
theorem noPar_bind {pa : Arguments} (h : noPar pa = true) (q : Str) (body : Expr) (scope : Scope) (cl : List (Str × Addr)) (pm cv ctv : Value) : bindArgs (PySem.W.kla_fn "<lambda>" q pa body scope cl pm cv ctv) ⟨[], []⟩ = pure [] := by
  unfold noPar at h
  split at h
  · rfl
  · cases h
/-- the context of a closed lambda's body -/
theorem kk_clo (G : PkOk p P w K mg base Z0 cls) {n : Nat} (h : OkAll p P w K mg base Z0 cls n) {X : Cx} (hX : X.prog = P ∧ X.w = w ∧ X.K = K ∧ X.mg = mg ∧ X.base = base) {A : Around} {outer : List PySem.Env} {s : Shared} {H : Hp} {E : XK} {N : List Str} {q : Str} {scope : Scope} {f c' : Addr}
    (nd : N.Nodup) (hr : Room (2 * n) (A.deeper (cloEnv q scope s.heap.objs.size f c'))) {Z : Zx} (zp : ZP Z0 Z) :
    Kk ⟨{ p.lc with N := N }, scope, false⟩ (cloCx X A outer s H E N q scope f c') Z0 Z (p.env n) cls (fun c d _ H => E c d H) where
  su := ⟨by rw [zp_K zp, G.hK, ← hX.2.2.1] <;> rfl, rfl, nd, rfl, by
      have := hr.un
      show (A.deeper (cloEnv q scope s.heap.objs.size f c')).units + 66 + 16 * 0 < cLine
      omega, by
      have := hr.dp
      show (A.deeper (cloEnv q scope s.heap.objs.size f c')).depth + 3 * 0 < recursionLimit
      omega, fun z => absurd z (Nat.lt_irrefl 0), (fun j pa b s z => by cases z), takes_of rfl rfl rfl rfl, zp, fun i x m hi => callee_of G h (X := cloCx X A outer s H E N q scope f c') hX (dd := 0) (show Room (2 * n + 0) (A.deeper (cloEnv q scope s.heap.objs.size f c')) from hr) i x m hi, by
      cases n <;> (intro i x hx; obtain ⟨u, h1, h2⟩ := G.gl i x hx; exact ⟨u, by rw [← hX.2.2.2.1] at h1; exact h1, h2⟩), fun x hx => by
      have := G.bl x hx
      rw [← hX.2.2.2.1] at this
      exact this⟩
  sc := rfl
  top := fun z => by cases z
  cv := fun z => by cases z
theorem lamB_chk {lo hi j : Nat} {pa : Arguments} {b : Expr} {s : Scope} (h : p.lamB lo hi j pa b s = true) : ∃ l : List Str × E, p.lams[j]? = some l ∧ noPar pa = true ∧ lamCB s = true ∧ okE ⟨{ p.lc with N := l.1 }, s, false⟩ l.2 b = true := by
  unfold Pk.lamB at h
  simp only [Bool.and_eq_true] at h
  have h2 := h.2
  unfold lamChk at h2
  split at h2
  · rename_i N e hl
    simp only [Bool.and_eq_true] at h2
    exact ⟨(N, e), hl, h2.1.1, h2.1.2, h2.2⟩
  · cases h2
/-- a closed lambda called -/
theorem cv_of (G : PkOk p P w K mg base Z0 cls) {n : Nat} (h : ∀ m, n = m + 1 → OkAll p P w K mg base Z0 cls m) {X : Cx} (hX : X.prog = P ∧ X.w = w ∧ X.K = K ∧ X.mg = mg ∧ X.base = base) (hr : Room (2 * n + 1) X.A) {W : WX} (tk : Takes X W) {Z : Zx} (zp : ZP Z0 Z) {i : Nat} {a : Str} {p1 p2 : Pos}
    (hN : X.N[i]? = some a) (hv : Vis X.env.scope a) (hd : (a == ("__debug__" : Str)) = false) (hcd : (a == ("__classdict__" : Str)) = false) :
    PE X (.Call (.Name a p1) [] [] p2) (tE Z W cls (ev (p.env n) (.callv i))) := by
  refine ⟨fun pins s σ H Q I ht => ?_⟩
  obtain ⟨ρ, σ', μ, so, m, pp⟩ := ht
  unfold ev at pp
  split at pp
  · rename_i j hj
    obtain ⟨v, hs, r⟩ := so.at_ i _ hj
    cases n with
    | zero => exact False.elim pp
    | succ n =>
      have O := h n rfl
      have pp : Pst Z ρ H (QD Z Q) (fun c _ H' _ => W (cls c) none σ H') (match p.lams[j]? with
        | some l => ev (p.env n) l.2 (List.replicate l.1.length none) μ
        | none => .no) := pp
      cases hl : p.lams[j]? with
      | none => rw [hl] at pp; exact False.elim pp
      | some l =>
        rw [hl] at pp
        obtain ⟨d, hd2, hlo, hhi⟩ := G.lown j l hl
        obtain ⟨hfo, hco⟩ := G.lfo d hd2 j hlo hhi
        cases r with
        | clo h1 h2 n1 n2 t1 t2 =>
          rename_i f c'
          have hz : Z.fo = Z0.fo ∧ Z.co = Z0.co := by
            obtain ⟨ex, rfl⟩ := zp
            exact ⟨rfl, rfl⟩
          rw [hz.1, hfo] at h1
          rw [hz.2, hco] at h2
          refine (pe_clo (X := X) (chk := fun pa b s => p.lamB d.lo d.hi j pa b s = true) (q := d.q) (i := i) (k := 2 * n) (a := a) (W := W) (N := l.1) (tb := fun E => tE Z (fun c d _ H => E c d H) cls (ev (p.env n) l.2)) tk (hr.mono (by omega)) hN hv hd hcd (fun params body scope hk => ?_) (fun params body scope hk A outer s H E f c' _ hr2 _ => ?_)).run pins s σ H Q I
            ⟨f, c', fun c dd H' => W c dd σ H', hs, h1, h2, fun _ _ _ z => z, ρ, List.replicate l.1.length none, μ, ⟨by rw [List.length_replicate, List.length_replicate], fun k dd hk => ?_⟩, m, pp⟩
          · obtain ⟨l', _, hp, hc, _⟩ := lamB_chk hk
            exact ⟨lamC_by hc, fun q cl pm cv ctv => noPar_bind hp q body scope cl pm cv ctv⟩
          · obtain ⟨l', hl', hp, hc, hok⟩ := lamB_chk hk
            rw [hl] at hl'
            cases hl'
            exact sE l.2 body (kk_clo G O hX (G.lnd j l hl) (hr2.mono (by omega)) zp) hok
          · rw [List.getElem?_replicate] at hk
            split at hk <;> cases hk
  · exact False.elim pp
theorem ok_succ (G : PkOk p P w K mg base Z0 cls) {n : Nat} (h : OkAll p P w K mg base Z0 cls n) (h' : ∀ m, n = m + 1 → OkAll p P w K mg base Z0 cls m) : OkAll p P w K mg base Z0 cls (n + 1) := fun i d hd f fd F hm => by
  have hmem := List.mem_of_getElem? hd
  have e : (p.env (n + 1)).fn i = fun_ (p.env n) d.N.length d.keep d.b := by
    funext as μ
    show (match p.defs[i]? with
      | some d => fun_ (p.env n) d.N.length d.keep d.b as μ
      | none => .no) = _
    rw [hd]
  rw [e]
  obtain ⟨f2, fd2, F2, hm2, hb2, c, T, hc, hT, hTm, hq⟩ := G.df d hmem
  rw [hm] at hm2
  cases hm2
  obtain ⟨oc, od, dV, kV, doc, pm, an, cdv, ct, osl, rfl, lk, hcd, _, _⟩ := F.ex
  obtain ⟨oc2, od2, dV2, kV2, doc2, pm2, an2, cdv2, ct2, osl2, rfl, lk2, hcd2, _, _⟩ := F2.ex
  rw [lk] at lk2
  cases lk2
  have hc : cdv = .ref c := hc
  have S := G.sc d hmem
  have ck := G.ck d hmem
  refine fn_M (k := 2 * n + 1) lk hcd S fun A outer s H E Z hr zp => ?_
  generalize hXd : cxOf (L2.CX P w) P w K mg base d.N d.name (defScope d.st) f cdv A outer s H E = X
  have hX : X.prog = P ∧ X.w = w ∧ X.K = K ∧ X.mg = mg ∧ X.base = base := by rw [← hXd]; exact ⟨rfl, rfl, rfl, rfl, rfl⟩
  have hA : X.A = A.deeper (envOfC d.name (defScope d.st) s.heap.objs.size f cdv) := by rw [← hXd] <;> rfl
  have hrX : Room (2 * n + 1) X.A := by rw [hA]; exact hr
  have tk : Takes X (fun c d _ H => E c d H) := by rw [← hXd]; exact takes_of rfl rfl rfl rfl
  have hcode : X.env.code = .ref c := by rw [← hXd]; exact hc
  have hqual : X.env.qual = d.name ++ ".<locals>." := by rw [← hXd] <;> rfl
  have hsc : X.env.scope = defScope d.st := by rw [← hXd] <;> rfl
  have hNX : X.N = d.N := by rw [← hXd] <;> rfl
  have hcalm : X.calm = true := by rw [← hXd] <;> rfl
  have po : PassesOwn (model X.prog X.w) X.A X.env X.xe := by rw [← hXd]; exact passes_of rfl
  have hst : X.stack = X.env :: X.outer ∧ X.env.frame = some X.env.locals := by rw [← hXd]; exact ⟨rfl, rfl⟩
  have hfn : ∀ x, X.fn x = true := by rw [← hXd]; exact fun _ => rfl
  obtain ⟨rfl, rfl, rfl, rfl, rfl⟩ := hX
  have dd : (p.cfg d).d ≤ 1 := by
    show (if d.lo < d.hi then 0 else 1) ≤ 1
    split <;> omega
  have su : Su (p.cfg d) X Z0 Z (p.env n) cls (fun c d _ H => E c d H) := ⟨by rw [zp_K zp, G.hK], hNX, by rw [hNX]; exact S.nd, hcalm, by
      have := hrX.un
      omega, by
      have := hrX.dp
      omega, fun hd1 => by
      have hlo : ¬ d.lo < d.hi := fun z => by
        have hd1 : 0 < (if d.lo < d.hi then 0 else 1) := hd1
        rw [if_pos z] at hd1
        omega
      rw [if_neg hlo] at hq
      exact ⟨c, T, hcode, hT, hTm, hq⟩, fun j pa b sc hl => by
      have hl : p.lamB d.lo d.hi j pa b sc = true := hl
      obtain ⟨l, hlj, hp, hcb, _⟩ := lamB_chk hl
      unfold Pk.lamB at hl
      simp only [Bool.and_eq_true, decide_eq_true_eq] at hl
      have hlt : d.lo < d.hi := Nat.lt_of_le_of_lt hl.1.1 hl.1.2
      rw [if_pos hlt] at hq
      obtain ⟨g1, g2⟩ := G.lfo d hmem j hl.1.1 hl.1.2
      exact ⟨c, T, d.q, hcode, hT, by rw [hqual] <;> rfl, hTm, hq, g1, g2, noPar_def hp, lamC_by hcb⟩, tk, zp, fun i x m hi => callee_of G h ⟨rfl, rfl, rfl, rfl, rfl⟩ (hrX.mono (by omega)) i x m hi, by
      cases n <;> (intro i x hx; exact G.gl i x hx), G.bl⟩
  have kk : Kk ⟨p.cfg d, defScope d.st, true⟩ X Z0 Z (p.env n) cls (fun c d _ H => E c d H) := ⟨su, hsc, fun _ => hfn, fun _ _ pn xe Z W i a p1 p2 tk zp hN hv h1 h2 => cv_of G h' (X := X.tr pn xe) ⟨rfl, rfl, rfl, rfl, rfl⟩ hrX tk zp hN hv h1 h2⟩
  have ks : Ks ⟨p.cfg d, defScope d.st, true⟩ X Z0 Z (p.env n) cls (fun c d _ H => E c d H) := ⟨kk, po, by rw [hsc]; exact S.kind, hst, fun j x hj hg hdb => ⟨hg, hdb, .inl (G.exn j x hj)⟩, fun j x hj d => G.exm j x hj d, fun j x hj hg hdb mm nn pp pp2 pos => by
    obtain ⟨C, eC, q1, q2, q3, q4⟩ := G.exc j x hj
    have hm := G.exn j x hj
    rw [eC] at hm ⊢
    exact pmk_own PySem.F.excBase_ValueError q1 hm q2 (raises_own q3 q4) hg hdb⟩
  exact sB d.b (defBody d.st) ks ck
theorem ok_all (G : PkOk p P w K mg base Z0 cls) : ∀ n, OkAll p P w K mg base Z0 cls n := by
  have key : ∀ n, OkAll p P w K mg base Z0 cls n ∧ (∀ m, n = m + 1 → OkAll p P w K mg base Z0 cls m) := by
    intro n
    induction n with
    | zero => exact ⟨ok_0, fun m z => by cases z⟩
    | succ n ih => exact ⟨ok_succ G ih.1 ih.2, fun m z => by cases z; exact ih.1⟩
  exact fun n => (key n).1
end
end Mi
set_option Elab.async false
set_option linter.all false
set_option maxRecDepth 100000
set_option maxHeartbeats 4000000
/-! Mc: from the head's facts to the law's call. -/
namespace Mi
open PySem PySem.Spec PyProof.Rows L2
def Pk.fa (p : Pk) : List He.Fa := p.defs.map (fun d => .glo d.name) ++ (p.excs.map .glo ++ (p.excs.map .exc ++ bnames.map .free))
def dfD (d : Df) : He.DefD := ⟨(d.name, none), d.name, d.name, defArgs d.st, defBody d.st, defScope d.st, [], []⟩
def Pk.fn (p : Pk) : List He.DefD := p.defs.map dfD
def Pk.tk (p : Pk) : List Dn := (p.globs.zip p.gv).filterMap fun q => match q.2 with
  | .dct kvs => some (q.1, kvs)
  | .val _ => none
def Pk.cls (p : Pk) (K : PySem.W.Frag) (d : Nat) : Value := match p.excs[d]? with
  | some x => .ref (He.ga K x)
  | none => .type "KeyError"
def valB (K : PySem.W.Frag) (x : Str) (d : D) : Bool := match PySem.W.nsIn K mainGlobals x with
  | some (some u) => repIn K d u
  | _ => false
def Pk.ex (p : Pk) (K : PySem.W.Frag) : Bool := ((p.globs.zip p.gv).all fun q => match q.2 with
  | .val d => valB K q.1 d
  | .dct _ => true) && ((List.range (p.excs.length + 1)).all fun d => (List.range p.excs.length).all fun j => decide (PySem.W.exmOne K (p.cls K d) (p.cls K j) = some (decide (d = j))))
def Pk.lr (p : Pk) : List (Nat × Nat × Str) := p.defs.filterMap fun d => if d.lo < d.hi then some (d.lo, d.hi, d.q) else none
def Pk.lat (p : Pk) (j : Nat) : Option (Nat × Nat × Str) := p.lr.find? fun r => decide (r.1 ≤ j) && decide (j < r.2.1)
def Pk.lrB (p : Pk) : Bool := (p.lr.all fun r => (List.range r.2.1).all fun j => decide (j < r.1) || decide (p.lat j = some r)) && (List.range p.lams.length).all fun j => (p.lat j).isSome
/-- what is checked of the program's parts alone -/
structure PkG (p : Pk) : Prop where
  fns : p.fns = p.defs.map fun d => (d.name, d.ps.length)
  gv : p.globs.length = p.gv.length
  sc : ∀ d ∈ p.defs, FnScope d.N d.ps (defScope d.st)
  ck : ∀ d ∈ p.defs, okB ⟨p.cfg d, defScope d.st, true⟩ d.b (defBody d.st) = true
  bi : ∀ d ∈ p.defs, ∀ (kV doc pm : Value) (an : Option Addr) (cdv ct : Value) (us : List Value), us.length = d.ps.length → bindArgs (PySem.W.fnOf d.name d.name (defArgs d.st) (defBody d.st) (defScope d.st) .none kV doc pm an cdv ct) ⟨us, []⟩ = pure (d.ps.zip us)
  lnd : ∀ l ∈ p.lams, l.1.Nodup
  lr : p.lrB = true
def Pk.fo (p : Pk) (j : Nat) (a c : Addr) : HO := match p.lat j with
  | some r => LamG (fun pa b s => p.lamB r.1 r.2.1 j pa b s = true) r.2.2 a c
  | none => LamG (fun _ _ _ => False) "" a c
def Pk.co (p : Pk) (j : Nat) (c : Addr) : HO := match p.lat j with
  | some r => LamX.CodeO c r.2.2
  | none => LamX.CodeO c ""
def Pk.tq (p : Pk) (K : PySem.W.Frag) (T : Addr) : Option Str := (p.defs.find? fun d => decide (d.lo < d.hi) && decide ((He.cT K (d.name, none)).2 = T)).map Df.q
def Pk.Z (p : Pk) (K : PySem.W.Frag) (L : List (Addr × HO × Obj)) : Zx := { K := K, tb := tbM K p.fn, ex := [], fo := p.fo, co := p.co, gl := L.map fun q => (q.1, q.2.1), tq := p.tq K }
theorem find_nd {α β : Type} [DecidableEq β] {f : α → β} {c : α → Bool} : ∀ {l : List α} {x : α}, (l.map f).Nodup → x ∈ l → l.find? (fun y => c y && decide (f y = f x)) = if c x = true then some x else none
  | [], x, _, h => by cases h
  | y :: l, x, nd, h => by
    rw [List.map_cons, List.nodup_cons] at nd
    rcases List.mem_cons.mp h with e | e
    · subst e
      by_cases q : c x = true
      · rw [if_pos q, List.find?_cons_of_pos (by simp [q])]
      · rw [if_neg q, List.find?_cons_of_neg (by simp [q])]
        refine List.find?_eq_none.mpr fun z hz => ?_
        have : f z ≠ f x := fun w => nd.1 (by rw [← w]; exact List.mem_map.mpr ⟨z, hz, rfl⟩)
        simp [this]
    · have : f y ≠ f x := fun w => nd.1 (by rw [w]; exact List.mem_map.mpr ⟨x, e, rfl⟩)
      rw [List.find?_cons_of_neg (by simp [this])]
      exact find_nd nd.2 e
section
variable {p : Pk} {w : World} {h : Heap} {K : PySem.W.Frag} {as : List Addr}
theorem lat_of (G : PkG p) {d : Df} (hd : d ∈ p.defs) {j : Nat} (h1 : d.lo ≤ j) (h2 : j < d.hi) : p.lat j = some (d.lo, d.hi, d.q) := by
  have hb := G.lr
  unfold Pk.lrB at hb
  rw [Bool.and_eq_true] at hb
  have hr : (d.lo, d.hi, d.q) ∈ p.lr := List.mem_filterMap.mpr ⟨d, hd, by rw [if_pos (Nat.lt_of_le_of_lt h1 h2)]⟩
  have h3 := List.all_eq_true.mp (List.all_eq_true.mp hb.1 _ hr) j (List.mem_range.mpr h2)
  rw [Bool.or_eq_true, decide_eq_true_eq, decide_eq_true_eq] at h3
  rcases h3 with z | z
  · exact absurd h1 (by have z : j < d.lo := z; omega)
  · exact z
theorem lown_of (G : PkG p) {j : Nat} {l : List Str × E} (hl : p.lams[j]? = some l) : ∃ d ∈ p.defs, d.lo ≤ j ∧ j < d.hi := by
  have hb := G.lr
  unfold Pk.lrB at hb
  rw [Bool.and_eq_true] at hb
  have h3 := List.all_eq_true.mp hb.2 j (List.mem_range.mpr (List.getElem?_eq_some_iff.mp hl).1)
  obtain ⟨r, hr⟩ := Option.isSome_iff_exists.mp h3
  unfold Pk.lat at hr
  have hm := List.mem_of_find?_eq_some hr
  have hp := List.find?_some hr
  simp only [Bool.and_eq_true, decide_eq_true_eq] at hp
  obtain ⟨d, hd, e⟩ := List.mem_filterMap.mp hm
  split at e
  · cases e
    exact ⟨d, hd, hp.1, hp.2⟩
  · cases e
theorem vals_map {vs : List V} {us : List Value} (r : Vals vs us) : vs.length = us.length := r.length
/-- a dict of the top, as it is tracked -/
structure DkOk (w : World) (h : Heap) (K : PySem.W.Frag) (t : Dn) (q : Addr × HO × Obj) : Prop where
  ok : ∀ P, Tk P w h K q
  at_ : PySem.W.nsIn K mainGlobals t.1 = some (some (.ref q.1))
  kvs : ∃ kvs : List (L2.Key × V), q.2.1 = .frz q.2.2 (.dK kvs) ∧ (kvs.map fun z => keyD z.1) = t.2.map (fun z => D.str z.1.cps.toList) ∧ ∀ Z ρ H, Z.K = K → Reps Z ρ H (t.2.map (·.2)) (kvs.map (·.2))
theorem pairs_of {P : Program} : ∀ {es : List DictEntry} {ks : List (Str × D)} {vs : List V}, es.map He.keyOf = He.keysIn w.params (ks.map (·.1)) → Vals vs (es.map (·.val)) → ks.length = es.length →
    ∃ xs : List (L2.Key × Value), KV ((ks.map fun z => (Sum.inr z.1 : L2.Key)).zip vs) xs ∧ Pairs (mixKind P w) es xs ∧ xs.map (·.1) = ks.map (fun z => (Sum.inr z.1 : L2.Key)) ∧ (∀ e ∈ es, ∃ k, (mixKind P w).is k e.key = true ∧ e.hash = (mixKind P w).hash k)
  | [], [], vs, _, rv, _ => by
    cases rv
    exact ⟨[], .nil, .nil, rfl, fun e he => by cases he⟩
  | e :: es, k :: ks, vs, hk, rv, hl => by
    rw [List.map_cons] at rv
    cases rv with
    | cons r rv =>
      rename_i v vs
      have hk : He.keyOf e :: es.map He.keyOf = some (k.1, PyData.keyHash w.params k.1) :: He.keysIn w.params (ks.map (·.1)) := hk
      injection hk with hk1 hk2
      obtain ⟨xs, x1, x2, x3, x4⟩ := pairs_of (P := P) hk2 rv (by simpa using hl)
      have hkey : (mixKind P w).is (Sum.inr k.1) e.key = true ∧ e.hash = (mixKind P w).hash (Sum.inr k.1) := by
        unfold He.keyOf at hk1
        split at hk1
        · rename_i x t he
          have e1 := Option.some.inj hk1
          injection e1 with e2 e3
          refine ⟨?_, ?_⟩
          · show keyIs (Sum.inr k.1) e.key = true
            rw [he, e2]
            show (k.1 == k.1) = true
            exact beq_self_eq_true _
          · rw [e3] <;> rfl
        · cases hk1
      refine ⟨(Sum.inr k.1, e.val) :: xs, .cons ⟨rfl, r⟩ x1, .cons hkey.1 rfl x2, ?_, fun e' he' => ?_⟩
      · rw [List.map_cons, List.map_cons, x3]
      · rcases List.mem_cons.mp he' with z | z
        · rw [z]; exact ⟨_, hkey⟩
        · exact x4 e' z
  | [], _ :: _, _, _, _, hl => by cases hl
  | _ :: _, [], _, _, _, hl => by cases hl
theorem dk_of {fa : List He.Fa} {fn : List He.DefD} {tk : List Dn} {ex : PySem.W.Frag → Bool} (c : SaysM fa fn tk ex w h K as) {i : Nat} {t : Dn} {a : Addr} (ht : tk[i]? = some t) (ha : as[i]? = some a) : ∃ q : Addr × HO × Obj, q.1 = a ∧ DkOk w h K t q := by
  obtain ⟨a1, a2, a3, a4, a5, es, n, b1, b2, b3, b4⟩ := c.at_ i t a ht ha
  obtain ⟨vs, rv, rr⟩ := reps_in (K := K) _ b4
  have lv : vs.length = es.toList.length := by simpa using rv.length
  have lk : t.2.length = es.toList.length := by
    have := congrArg List.length b3
    simpa [He.keysIn] using this.symm
  let kvs : List (L2.Key × V) := (t.2.map fun z => (Sum.inr z.1 : L2.Key)).zip vs
  have k1 : kvs.map (·.1) = t.2.map fun z => (Sum.inr z.1 : L2.Key) := List.map_fst_zip (by simp; omega)
  have k2 : kvs.map (·.2) = vs := List.map_snd_zip (by simp; omega)
  refine ⟨(a, .frz { cls := .type "dict", data := .dict es n } (.dK kvs), { cls := .type "dict", data := .dict es n }), rfl, ⟨fun P => ⟨b1, a2, fun H _ => ⟨b1, ?_, b2, ?_⟩, .inr ⟨kvs, es, n, rfl, rfl⟩, a3⟩, a1, kvs, rfl, ?_, fun Z ρ H hK => ?_⟩⟩
  · have : kvs.length ≤ 10000 := by simp [kvs]; omega
    rw [sizeLine_eq]; omega
  · obtain ⟨xs, x1, x2, x3, x4⟩ := pairs_of (P := P) (w := w) b3 rv lk
    refine ⟨xs, x1, _, es, n, b1, ⟨rfl, rfl, rfl⟩, rfl, fun e he => x4 e (by simpa using he), x2, ?_⟩
    rw [x3]
    have : (t.2.map fun z => (Sum.inr z.1 : L2.Key)) = (t.2.map (·.1)).map Sum.inr := by rw [List.map_map] <;> rfl
    rw [this]
    exact List.Pairwise.map _ (fun x y hxy z => hxy (Sum.inr.inj z)) a4
  · have : (kvs.map fun z => keyD z.1) = (kvs.map (·.1)).map keyD := by rw [List.map_map] <;> rfl
    rw [this, k1, List.map_map]
    rfl
  · rw [k2]; exact rr Z ρ H hK
theorem dks_of {fa : List He.Fa} {fn : List He.DefD} {tk : List Dn} {ex : PySem.W.Frag → Bool} (c : SaysM fa fn tk ex w h K as) : ∃ L : List (Addr × HO × Obj), L.map (·.1) = as ∧ ∀ (i : Nat) (t : Dn), tk[i]? = some t → ∃ q, L[i]? = some q ∧ DkOk w h K t q := by
  have key : ∀ m, m ≤ as.length → ∃ L : List (Addr × HO × Obj), L.map (·.1) = as.take m ∧ ∀ (i : Nat) (t : Dn), i < m → tk[i]? = some t → ∃ q, L[i]? = some q ∧ DkOk w h K t q := by
    intro m
    induction m with
    | zero => exact fun _ => ⟨[], by simp, fun i t hi => absurd hi (by omega)⟩
    | succ m ih =>
      intro hm
      obtain ⟨L, h1, h2⟩ := ih (by omega)
      have hlen : L.length = m := by
        have := congrArg List.length h1
        simp at this
        omega
      have ha : as[m]? = some (as[m]'(by omega)) := List.getElem?_eq_getElem (by omega)
      have ht : tk[m]? = some (tk[m]'(by have := c.len; omega)) := List.getElem?_eq_getElem (by have := c.len; omega)
      obtain ⟨q, hq, dq⟩ := dk_of c ht ha
      refine ⟨L ++ [q], ?_, fun i t hi hti => ?_⟩
      · rw [List.map_append, h1, List.take_add_one, ha]
        simp [hq]
      · by_cases hil : i < m
        · obtain ⟨q2, e2, d2⟩ := h2 i t hil hti
          exact ⟨q2, by rw [List.getElem?_append_left (by omega)]; exact e2, d2⟩
        · have : i = m := by omega
          subst this
          rw [ht] at hti
          cases hti
          exact ⟨q, by rw [List.getElem?_append_right (by omega)]; simp [hlen], dq⟩
  obtain ⟨L, h1, h2⟩ := key as.length (Nat.le_refl _)
  refine ⟨L, by simpa using h1, fun i t ht => h2 i t ?_ ht⟩
  rw [c.len]
  exact (List.getElem?_eq_some_iff.mp ht).1
/-- the defs' tables -/
def tbL (K : PySem.W.Frag) (p : Pk) : List (Addr × HO × Obj) := (tbM K p.fn).map fun T => (T, .tbl #[], { cls := .none, data := .fields #[] })
theorem tk_zip (p : Pk) : ∀ {i : Nat} {x : Str} {kvs : List (Str × D)}, p.globs[i]? = some x → p.gv[i]? = some (.dct kvs) → ∃ j : Nat, p.tk[j]? = some (x, kvs) := fun {i x kvs} h1 h2 => by
  have : (x, kvs) ∈ p.tk := List.mem_filterMap.mpr ⟨(x, .dct kvs), List.mem_of_getElem? (i := i) (by rw [List.getElem?_zip_eq_some]; exact ⟨h1, h2⟩), rfl⟩
  exact List.getElem?_of_mem this
theorem codeHd_of (KX : K.In h) {d : He.DefD} {fa : List He.Fa} {fn : List He.DefD} {tk : List Dn} {ex : PySem.W.Frag → Bool} (c : SaysM fa fn tk ex w h K as) (hd : d ∈ fn) : PySem.W.CodeHd h (He.cT K d.at_).1 (He.cT K d.at_).2 := PySem.W.codeHd_of_K KX (c.hd d hd)
theorem pkOk_of (G : PkG p) (P : Program) {L : List (Addr × HO × Obj)} (c : SaysM p.fa p.fn p.tk p.ex w h K as) (hL : ∀ (i : Nat) (t : Dn), p.tk[i]? = some t → ∃ q, L[i]? = some q ∧ DkOk w h K t q)
    {mg : Str → Option Value} {base : Heap} (KB : K.In base) (NB : base.Ns mainGlobals mg) (TB : ∀ d ∈ p.fn, GxR.TabB base mg (He.cT K d.at_).1 (He.cT K d.at_).2) : PkOk p P w K mg base (p.Z K L) (p.cls K) := by
  have more := c.more
  unfold Pk.ex at more
  rw [Bool.and_eq_true] at more
  have hglo : ∀ d ∈ p.defs, mg d.name = some (.ref (He.ga K d.name)) := fun d hd => He.glo_ok KB NB (c.d.facts (f := .glo d.name) (List.mem_append_left _ (List.mem_map.mpr ⟨d, hd, rfl⟩)))
  have hcls : ∀ (j : Nat) (x : Str), p.excs[j]? = some x → p.cls K j = .ref (He.ga K x) := fun j x hj => by
    unfold Pk.cls
    rw [hj]
  have hin : ∀ {j : Nat} {x : Str}, p.excs[j]? = some x → x ∈ p.excs := fun {j x} hj => List.mem_of_getElem? hj
  refine ⟨rfl, fun i x n hi => ?_, fun d hd => ?_, G.sc, G.ck, fun i x hi => ?_, fun x hx => ?_, fun j x hj => ?_, fun j x hj d => ?_, fun j x hj => ?_, fun j l hl => G.lnd l (List.mem_of_getElem? hl), fun d hd j h1 h2 => ?_, fun j l hl => lown_of G hl⟩
  · rw [G.fns, List.getElem?_map] at hi
    obtain ⟨d, hd, e⟩ := Option.map_eq_some_iff.mp hi
    cases e
    exact ⟨d, hd, rfl, rfl⟩
  · have hdf : dfD d ∈ p.fn := List.mem_map.mpr ⟨d, hd, rfl⟩
    obtain ⟨fd, F⟩ := c.d.defs hdf
    have F : FunD K d.name d.name (defArgs d.st) (defBody d.st) (defScope d.st) [] [] (He.ga K d.name) fd := F
    have hb : Binds K fd d.ps [] := FunD.bindsN F (G.bi d hd)
    have F' := F
    obtain ⟨oc, od, dV, kV, doc, pm, an, cdv, ct, osl, e, lk, hcd, _, _⟩ := F.ex
    obtain ⟨cc, hcc⟩ := He.codeIn_ref hcd
    have hfc : fd.code = .ref cc := by rw [e]; exact hcc
    have hco : (He.cT K (d.name, none)).1 = cc := He.codeOf_eq (p := (d.name, none)) lk hfc
    refine ⟨He.ga K d.name, fd, F', hglo d hd, hb, cc, (He.cT K (d.name, none)).2, hfc, ?_, List.mem_map.mpr ⟨dfD d, hdf, rfl⟩, ?_⟩
    · rw [← hco]; exact TB _ hdf
    · show p.tq K (He.cT K (d.name, none)).2 = _
      unfold Pk.tq
      have nd : (p.defs.map fun d => (He.cT K (d.name, none)).2).Nodup := by
        have := (List.nodup_append.mp c.nd).1
        unfold tbM Pk.fn at this
        rw [List.map_map] at this
        exact this
      rw [find_nd (f := fun d : Df => (He.cT K (d.name, none)).2) (c := fun d => decide (d.lo < d.hi)) nd hd]
      by_cases q : d.lo < d.hi
      · simp [q]
      · simp [q]
  · have hlen : i < p.gv.length := by
      rw [← G.gv]
      exact (List.getElem?_eq_some_iff.mp hi).1
    have hg : p.gv[i]? = some (p.gv[i]) := List.getElem?_eq_getElem hlen
    cases hgv : p.gv[i] with
    | val d =>
      rw [hgv] at hg
      have h1 := List.all_eq_true.mp more.1 (x, .val d) (List.mem_of_getElem? (i := i) (by rw [List.getElem?_zip_eq_some]; exact ⟨hi, hg⟩))
      have h1 : valB K x d = true := h1
      unfold valB at h1
      split at h1
      · rename_i u hu
        obtain ⟨v, r1, r2⟩ := rep_in d h1
        refine ⟨u, PySem.W.mg_of KB NB hu, fun Z ρ H μ zp m => ⟨v, r1, ?_⟩⟩
        have e : p.gD i = d := by
          unfold Pk.gD
          rw [hg] <;> rfl
        rw [e]
        exact r2 Z ρ H (zp_K zp)
      · cases h1
    | dct kvs =>
      rw [hgv] at hg
      obtain ⟨j, hj⟩ := tk_zip p hi hg
      obtain ⟨q, hq, dq⟩ := hL j _ hj
      obtain ⟨kv, e1, e2, e3⟩ := dq.kvs
      refine ⟨.ref q.1, PySem.W.mg_of KB NB dq.at_, fun Z ρ H μ zp m => ⟨.ref q.1, rfl, ?_⟩⟩
      have e : p.gD i = .dic (kv.map fun z => keyD z.1) (kvs.map (·.2)) := by
        unfold Pk.gD
        rw [hg, e2] <;> rfl
      rw [e]
      have hgl : (q.1, q.2.1) ∈ Z.gl := by
        obtain ⟨ex, rfl⟩ := zp
        exact List.mem_map.mpr ⟨q, List.mem_of_getElem? hq, rfl⟩
      obtain ⟨m1, m2, _⟩ := m.gl _ hgl
      exact .dic (.inr ⟨_, by rw [m1, e1]⟩) m2 (e3 Z ρ H (zp_K zp))
  · exact He.free_ok KB NB (c.d.facts (f := .free x) (List.mem_append_right _ (List.mem_append_right _ (List.mem_append_right _ (List.mem_map.mpr ⟨x, hx, rfl⟩)))))
  · rw [hcls j x hj]
    exact He.glo_ok KB NB (c.d.facts (f := .glo x) (List.mem_append_right _ (List.mem_append_left _ (List.mem_map.mpr ⟨x, hin hj, rfl⟩))))
  · have hjl := (List.getElem?_eq_some_iff.mp hj).1
    by_cases hd : d < p.excs.length
    · have := List.all_eq_true.mp (List.all_eq_true.mp more.2 d (List.mem_range.mpr (by omega))) j (List.mem_range.mpr hjl)
      exact of_decide_eq_true this
    · have := of_decide_eq_true (List.all_eq_true.mp (List.all_eq_true.mp more.2 p.excs.length (List.mem_range.mpr (by omega))) j (List.mem_range.mpr hjl))
      have e1 : p.cls K d = p.cls K p.excs.length := by
        unfold Pk.cls
        rw [List.getElem?_eq_none (by omega), List.getElem?_eq_none (Nat.le_refl _)]
      rw [e1, this]
      congr 1
      have n1 : ¬ p.excs.length = j := by omega
      have n2 : ¬ d = j := by omega
      simp [n1, n2]
  · obtain ⟨q1, q2, q3, q4⟩ := He.exc_ok (c.d.facts (f := .exc x) (List.mem_append_right _ (List.mem_append_right _ (List.mem_append_left _ (List.mem_map.mpr ⟨x, hin hj, rfl⟩)))))
    exact ⟨_, hcls j x hj, q1, q2, q3, q4⟩
  · have e := lat_of G hd h1 h2
    refine ⟨fun a cc => ?_, fun cc => ?_⟩
    · show p.fo j a cc = _
      unfold Pk.fo
      rw [e]
    · show p.co j cc = _
      unfold Pk.co
      rw [e]
theorem start_mu {p : Pk} {L : List (Addr × HO × Obj)} {H : Hp} (hT : ∀ T ∈ tbM K p.fn, H T = some (.tbl #[])) (hLd : ∀ q ∈ L, H q.1 = some q.2.1 ∧ ∀ ps, q.2.1 ≠ .tbl ps) : MuOk (p.Z K L) [] H [] where
  nd := List.nodup_nil
  len := rfl
  live := fun a h => by cases h
  cell := fun i a d h => by simp at h
  tb := fun T hT' => ⟨#[], hT T hT', trivial⟩
  tbn := fun _ _ h => by cases h
  exl := fun a h => by cases h
  exn := fun a h => by cases h
  gl := fun q hq => by
    obtain ⟨r, hr, rfl⟩ := List.mem_map.mp hq
    exact ⟨(hLd r hr).1, ⟨List.not_mem_nil, List.not_mem_nil⟩, (hLd r hr).2⟩
  tq := fun T hT' q _ ps hp pos cv hc => by
    rw [hT T hT'] at hp
    cases hp
    cases hc
end
/-- THE LAW'S END -/
theorem walk_M {l : PySem.W.OpenLaw} {n lv : Nat} {q : Program} {loose : List Str} {XP : (Str → Option Value) → Heap → Prop} {d : DefRec} {p : Pk} {li : Nat} {ld : Df} {x : Str} {N : Nat} (G : PkG p)
    (hn : l.most = some n) (hn2 : n ≤ sizeLine) (hdf : d.params.defaults = []) (hr : Room (2 * lv) callerA) (hli : p.defs[li]? = some ld) (hps : ld.ps = [x]) (hnm : ld.name = d.name)
    (law : ∀ ns : List Int, ns.length ≤ n → (∀ z ∈ ns, Builtin.Int.intBits z ≤ 1048576) → ∃ μ, (p.env lv).fn li [.scr ns] [] = .ok (.bl true) μ) :
    PySem.W.WalkO q loose XP (hookM N p.fa p.fn p.tk p.ex).says l.row.toRowW d [] (fun f vs => PySem.call f vs) := by
  refine Att.attach_callB hn hdf fun w s₀ s₁ mg mb fa o pm cd doc a vs ns G0 Y ho hd hcd hmg hobj hints hlen hbits hg => ?_
  obtain ⟨K, as, KX, c⟩ := Y
  have hmem : ld ∈ p.defs := List.mem_of_getElem? hli
  obtain ⟨L, hL1, hL2⟩ := dks_of c
  have hLk : ∀ r ∈ L, ∃ t, DkOk w s₁.heap K t r := fun r hr => by
    obtain ⟨i, hi⟩ := List.getElem?_of_mem hr
    have hl := (List.getElem?_eq_some_iff.mp hi).1
    have : L.length = p.tk.length := by
      rw [← c.len, ← hL1, List.length_map]
    have ht : p.tk[i]? = some (p.tk[i]'(by omega)) := List.getElem?_eq_getElem (by omega)
    obtain ⟨q, hq, dq⟩ := hL2 i _ ht
    rw [hi] at hq
    cases hq
    exact ⟨_, dq⟩
  have hfd : ∃ fd : FuncData, FunD K ld.name ld.name (defArgs ld.st) (defBody ld.st) (defScope ld.st) [] [] (He.ga K ld.name) fd := c.d.defs (d := dfD ld) (List.mem_map.mpr ⟨ld, hmem, rfl⟩)
  obtain ⟨fd, F⟩ := hfd
  have hfa : fa = He.ga K ld.name := by
    have e := He.glo_ok KX G0.T.g (c.d.facts (f := .glo ld.name) (List.mem_append_left _ (List.mem_map.mpr ⟨ld, hmem, rfl⟩)))
    rw [hnm, hmg] at e
    rw [hnm]
    cases e
    rfl
  refine law_callG (L := tbL K p ++ L) (k := 2 * lv) (sp := spM (p.Z K L) (p.cls K) ld.ps.length ((p.env lv).fn li)) (CX := L2.CX l.prog w) (fd := fd) (x := x) (K := K) (fa := fa) KX G0.T.g G0.T.b G0.T.builtins G0.T.nolimit hg (fun r hr => ?_) ?_ hobj hints (Nat.le_trans hlen hn2) hr G0.T.bmain (fun base KB NB TB => ?_) (fun s u => ?_) (fun H HL hS _ => ?_) fun H e s' z => ?_
  · rcases List.mem_append.mp hr with hr | hr
    · unfold tbL at hr
      obtain ⟨T, hT, rfl⟩ := List.mem_map.mp hr
      obtain ⟨dd, hdd, rfl⟩ := List.mem_map.mp hT
      exact ⟨c.empty dd hdd, c.out dd hdd, fun H _ => c.empty dd hdd, .inl ⟨rfl, rfl, _, codeHd_of KX c hdd⟩, c.far dd hdd⟩
    · obtain ⟨t, dq⟩ := hLk r hr
      exact dq.ok _
  · have : (tbL K p ++ L).map (·.1) = tbM K p.fn ++ as := by
      unfold tbL
      rw [List.map_append, hL1, List.map_map]
      congr 1
      exact List.map_id _
    rw [this]
    exact c.nd
  · have pk := pkOk_of G l.prog c hL2 KB NB fun dd hdd => TB _ ((He.cT K dd.at_).2, .tbl #[], { cls := .none, data := .fields #[] }) (List.mem_append_left _ (List.mem_map.mpr ⟨_, List.mem_map.mpr ⟨dd, hdd, rfl⟩, rfl⟩)) rfl (codeHd_of KX c hdd)
    have := ok_all pk lv li ld hli (He.ga K ld.name) fd F (He.glo_ok KB NB (c.d.facts (f := .glo ld.name) (List.mem_append_left _ (List.mem_map.mpr ⟨ld, hmem, rfl⟩))))
    rw [hps] at this ⊢
    rw [hfa]
    exact this
  · have b := FunD.bindsA (ps := ld.ps) F (G.bi ld hmem) s [u] (by rw [hps] <;> rfl)
    rw [hps] at b
    exact b
  · obtain ⟨μ, hμ⟩ := law ns hlen hbits
    refine ⟨p.Z K L, [], [], [.scr ns], ⟨_, rfl⟩, by rw [hps] <;> rfl, start_mu (fun T hT => HL (T, .tbl #[], _) (List.mem_append_left _ (List.mem_map.mpr ⟨T, hT, rfl⟩))) (fun r hr => ⟨HL r (List.mem_append_right _ hr), ?_⟩), .cons (.scr ?_) .nil, ?_⟩
    · obtain ⟨t, dq⟩ := hLk r hr
      obtain ⟨kvs, e, _⟩ := dq.kvs
      rw [e]
      exact fun ps z => by cases z
    · rcases hS with z | z
      · exact .inl ⟨z, List.not_mem_nil, List.not_mem_nil⟩
      · exact .inr z
    · rw [hμ]
      intro ρ' H' x1 m1 v r
      cases r
      rfl
  · obtain ⟨_, _, _, _, _, _, _, _, _, _, _, _, q⟩ := z
    exact q
end Mi
set_option Elab.async false
set_option linter.all false
set_option maxRecDepth 100000
set_option maxHeartbeats 4000000
/-! The defs of the law in the own language, printed by pr.py, mk.py. -/
namespace Mi
open PySem PySem.Spec PyProof.Rows L2
abbrev PP : Program := PySem.Challenge.pw_localestack_k16_texts_of_two_sides
def topS (i : Nat) : Stmt := PP.main.body.getD i (.Pass ⟨0, 0, 0, 0⟩)
def fnsK : List (Str × Nat) := [("check_line", 1), ("kind_of_sign", 1), ("begin_of", 1), ("levels_of", 2), ("plain_kinds", 2), ("with_between", 2), ("seen_order", 1), ("line_seen", 2), ("place_seen", 3), ("runs_seen", 2), ("marked_within", 3), ("is_mixed", 1), ("kept_apart", 2), ("lines_seen", 2), ("_law_dice", 1), ("_law_roll", 2), ("_law_rounds", 2), ("_law_told", 1), ("_law_line", 2), ("_law_kind", 2), ("_law_levels", 2), ("_law_order", 1), ("_law_seen", 3), ("_law_begin", 1), ("_law_rows", 2), ("_law_plain", 0), ("law", 1)]
def globsK : List Str := ["MOST_SIGNS", "RIGHT_LETTERS", "LEFT_LETTERS", "MIRRORS"]
def excsK : List Str := ["SideError"]
def gvK : List Gv := [.val (.int (80)), .val (.str [65, 66, 67, 68, 69, 70, 71, 72, 73, 74, 75, 76, 77, 78, 79, 80, 81, 82, 83, 84, 85, 86, 87, 88, 89, 90]), .val (.str [97, 98, 99, 100, 101, 102, 103, 104, 105, 106, 107, 108, 109, 110, 111, 112, 113, 114, 115, 116, 117, 118, 119, 120, 121, 122]), .dct [("(", (.str [41])), (")", (.str [40])), ("[", (.str [93])), ("]", (.str [91])), ("<", (.str [62])), (">", (.str [60]))]]
def le_0 : List Str × E := ([], (.call 0 (eL [(.cst (.str [97, 10]))])))
def le_1 : List Str × E := ([], (.call 0 (eL [(.bin .mul (.cst (.str [97])) (.cst (.int 81)))])))
def le_2 : List Str × E := ([], (.call 3 (eL [(.cst (.str [97])), (.cst (.int 2))])))
def le_3 : List Str × E := ([], (.call 3 (eL [(.cst (.str [97, 10])), (.cst (.int 0))])))
def le_4 : List Str × E := ([], (.call 6 (eL [(.tup (eL [(.cst (.int 0)), (.neg (.cst (.int 1)))]))])))
def le_5 : List Str × E := ([], (.call 7 (eL [(.cst (.str [97])), (.cst (.int 2))])))
def le_6 : List Str × E := ([], (.call 8 (eL [(.cst (.str [97])), (.cst (.int 0)), (.cst (.int 1))])))
def le_7 : List Str × E := ([], (.call 8 (eL [(.cst (.str [97])), (.cst (.int 0)), (.neg (.cst (.int 1)))])))
def le_8 : List Str × E := ([], (.call 9 (eL [(.cst (.str [97])), (.cst (.int 2))])))
def le_9 : List Str × E := ([], (.call 10 (eL [(.cst (.str [97])), (.cst (.int 1)), (.cst (.int 0))])))
def le_10 : List Str × E := ([], (.call 10 (eL [(.cst (.str [97])), (.cst (.int 0)), (.cst (.int 2))])))
def le_11 : List Str × E := ([], (.call 12 (eL [(.tup (eL [(.cst (.str [97]))])), (.cst (.int 2))])))
def le_12 : List Str × E := ([], (.call 13 (eL [(.cst (.str [97])), (.cst (.int 0))])))
def lamsK : List (List Str × E) := [le_0, le_1, le_2, le_3, le_4, le_5, le_6, le_7, le_8, le_9, le_10, le_11, le_12]
/-- check_line: statement 8, def 0 -/
def nm_check_line : List Str := ["text"]
def b_check_line : Ss := sL [
  .ite (.or (.cmp .isin (.cst (.str [10])) (.var 0)) (.cmp .gt (.blt .len (eL [(.var 0)])) (.glo 0))) (sL [
    .rai 0]) (sL [])]
def dF_check_line : Df := ⟨"check_line", topS 8, nm_check_line, ["text"], false, false, 0, 0, b_check_line⟩
/-- kind_of_sign: statement 9, def 1 -/
def nm_kind_of_sign : List Str := ["sign"]
def b_kind_of_sign : Ss := sL [
  .ite (.cmp .isin (.var 0) (.glo 2)) (sL [
    .ret (.cst (.str [76]))]) (sL []), 
  .ite (.cmp .isin (.var 0) (.glo 1)) (sL [
    .ret (.cst (.str [82]))]) (sL []), 
  .ite (.cmp .isin (.var 0) (.cst (.str [48, 49, 50, 51, 52, 53, 54, 55, 56, 57]))) (sL [
    .ret (.cst (.str [78]))]) (sL []), 
  .ret (.ife (.cmp .isin (.var 0) (.cst (.str [43, 45, 46, 44, 58]))) (.cst (.str [83])) (.cst (.str [66])))]
def dF_kind_of_sign : Df := ⟨"kind_of_sign", topS 9, nm_kind_of_sign, ["sign"], false, false, 0, 0, b_kind_of_sign⟩
/-- begin_of: statement 10, def 2 -/
def nm_begin_of : List Str := ["text", "sign"]
def b_begin_of : Ss := sL [
  .for (.one 1) (.seq (.var 0)) (sL [
    .ite (.cmp .isin (.call 1 (eL [(.var 1)])) (.tup (eL [(.cst (.str [76])), (.cst (.str [82]))]))) (sL [
      .ret (.ife (.cmp .eq (.call 1 (eL [(.var 1)])) (.cst (.str [82]))) (.cst (.int 1)) (.cst (.int 0)))]) (sL [])]), 
  .ret (.cst (.int 0))]
def dF_begin_of : Df := ⟨"begin_of", topS 10, nm_begin_of, ["text"], false, false, 0, 0, b_begin_of⟩
/-- levels_of: statement 11, def 3 -/
def nm_levels_of : List Str := ["text", "begin", "kinds", "found", "kind"]
def b_levels_of : Ss := sL [
  .drop (.call 0 (eL [(.var 0)])), 
  .ite (.cmp .nin (.var 1) (.tup (eL [(.cst (.int 0)), (.cst (.int 1))]))) (sL [
    .rai 0]) (sL []), 
  .asg (.one 2) (.call 4 (eL [(.var 0), (.var 1)])), 
  .asg (.one 3) (.lst true (eL [])), 
  .for (.one 4) (.seq (.var 2)) (sL [
    .ite (.cmp .eq (.var 4) (.cst (.str [82]))) (sL [
      .app (.var 3) (.cst (.int 1))]) (sL [
      .ite (.cmp .eq (.var 4) (.cst (.str [76]))) (sL [
        .app (.var 3) (.ife (.cmp .eq (.var 1) (.cst (.int 0))) (.cst (.int 0)) (.cst (.int 2)))]) (sL [
        .ite (.cmp .eq (.var 4) (.cst (.str [78]))) (sL [
          .app (.var 3) (.cst (.int 2))]) (sL [
          .app (.var 3) (.var 1)])])])]), 
  .ret (.blt .tuple (eL [(.var 3)]))]
def dF_levels_of : Df := ⟨"levels_of", topS 11, nm_levels_of, ["text", "begin"], false, false, 0, 0, b_levels_of⟩
/-- plain_kinds: statement 12, def 4 -/
def nm_plain_kinds : List Str := ["text", "begin", "kinds", "place", "last", "kind", "sign", "is_between"]
def b_plain_kinds : Ss := sL [
  .asg (.one 2) (.comp true (.one 6) (.seq (.var 0)) .none (.call 1 (eL [(.var 6)]))), 
  .for (.one 3) (.rng (eL [(.blt .len (eL [(.var 2)]))])) (sL [
    .ite (.cmp .eq (.sub (.var 2) (.var 3)) (.cst (.str [83]))) (sL [
      .asg (.one 7) (.and (.chn (.cst (.int 0)) (.more .lt (.var 3) (.last .lt (.bin .sub (.blt .len (eL [(.var 2)])) (.cst (.int 1)))))) (.chn (.sub (.var 2) (.bin .sub (.var 3) (.cst (.int 1)))) (.more .eq (.sub (.var 2) (.bin .add (.var 3) (.cst (.int 1)))) (.last .eq (.cst (.str [78])))))), 
      .put (.var 2) (.var 3) (.ife (.var 7) (.cst (.str [78])) (.cst (.str [66])))]) (sL [])]), 
  .asg (.one 4) (.ife (.cmp .eq (.var 1) (.cst (.int 1))) (.cst (.str [82])) (.cst (.str [76]))), 
  .for (.tup [(.one 3), (.one 5)]) (.enm (.lsof false (.var 2))) (sL [
    .asg (.one 4) (.ife (.cmp .isin (.var 5) (.tup (eL [(.cst (.str [76])), (.cst (.str [82]))]))) (.var 5) (.var 4)), 
    .ite (.and (.cmp .eq (.var 5) (.cst (.str [78]))) (.cmp .eq (.var 4) (.cst (.str [76])))) (sL [
      .put (.var 2) (.var 3) (.cst (.str [76]))]) (sL [])]), 
  .ret (.call 5 (eL [(.var 2), (.var 1)]))]
def dF_plain_kinds : Df := ⟨"plain_kinds", topS 12, nm_plain_kinds, ["text", "begin"], false, false, 0, 0, b_plain_kinds⟩
/-- with_between: statement 13, def 5 -/
def nm_with_between : List Str := ["kinds", "begin", "found", "place", "own", "end", "ahead", "behind"]
def b_with_between : Ss := sL [
  .par [2, 3, 4] (eL [(.lsof true (.var 0)), (.cst (.int 0)), (.ife (.cmp .eq (.var 1) (.cst (.int 1))) (.cst (.str [82])) (.cst (.str [76])))]), 
  .whl (.cmp .lt (.var 3) (.blt .len (eL [(.var 2)]))) (sL [
    .asg (.one 5) (.var 3), 
    .whl (.and (.cmp .lt (.var 5) (.blt .len (eL [(.var 2)]))) (.cmp .eq (.sub (.var 2) (.var 5)) (.cst (.str [66])))) (sL [
      .aug 5 .add (.cst (.int 1))]), 
    .ite (.cmp .gt (.var 5) (.var 3)) (sL [
      .asg (.one 6) (.ife (.cmp .eq (.var 3) (.cst (.int 0))) (.var 4) (.ife (.cmp .eq (.sub (.var 2) (.bin .sub (.var 3) (.cst (.int 1)))) (.cst (.str [76]))) (.cst (.str [76])) (.cst (.str [82])))), 
      .asg (.one 7) (.ife (.cmp .eq (.var 5) (.blt .len (eL [(.var 2)]))) (.var 4) (.ife (.cmp .eq (.sub (.var 2) (.var 5)) (.cst (.str [76]))) (.cst (.str [76])) (.cst (.str [82])))), 
      .cut (.var 2) (.var 3) (.var 5) (.bin .mul (.lst false (eL [(.ife (.cmp .eq (.var 6) (.var 7)) (.var 6) (.cst (.str [])))])) (.bin .sub (.var 5) (.var 3))), 
      .asg (.one 3) (.var 5)]) (sL [
      .aug 3 .add (.cst (.int 1))])]), 
  .ret (.var 2)]
def dF_with_between : Df := ⟨"with_between", topS 13, nm_with_between, ["kinds", "begin"], false, false, 0, 0, b_with_between⟩
/-- seen_order: statement 14, def 6 -/
def nm_seen_order : List Str := ["levels", "order", "level", "place", "end"]
def b_seen_order : Ss := sL [
  .ite (.gen .any (.one 2) (.seq (.var 0)) .none (.cmp .lt (.var 2) (.cst (.int 0)))) (sL [
    .rai 0]) (sL []), 
  .asg (.one 1) (.lrng true (eL [(.blt .len (eL [(.var 0)]))])), 
  .for (.one 2) (.rng (eL [(.blt .max (eL [(.bin .add (.lsof false (.var 0)) (.lst false (eL [(.cst (.int 0))])))])), (.cst (.int 0)), (.bin .sub (.cst (.int 0)) (.cst (.int 1)))])) (sL [
    .asg (.one 3) (.cst (.int 0)), 
    .whl (.cmp .lt (.var 3) (.blt .len (eL [(.var 1)]))) (sL [
      .asg (.one 4) (.var 3), 
      .whl (.and (.cmp .lt (.var 4) (.blt .len (eL [(.var 1)]))) (.cmp .ge (.sub (.var 0) (.sub (.var 1) (.var 4))) (.var 2))) (sL [
        .aug 4 .add (.cst (.int 1))]), 
      .cut (.var 1) (.var 3) (.var 4) (.rev (.slc (.var 1) (.some (.var 3)) (.some (.var 4)))), 
      .asg (.one 3) (.blt .max (eL [(.var 4), (.bin .add (.var 3) (.cst (.int 1)))]))])]), 
  .ret (.blt .tuple (eL [(.var 1)]))]
def dF_seen_order : Df := ⟨"seen_order", topS 14, nm_seen_order, ["levels"], false, false, 0, 0, b_seen_order⟩
/-- line_seen: statement 15, def 7 -/
def nm_line_seen : List Str := ["text", "begin", "levels", "found", "place"]
def b_line_seen : Ss := sL [
  .asg (.one 2) (.call 3 (eL [(.var 0), (.var 1)])), 
  .asg (.one 3) (.cst (.str [])), 
  .for (.one 4) (.seq (.call 6 (eL [(.var 2)]))) (sL [
    .aug 3 .add (.ife (.cmp .eq (.bin .mod (.sub (.var 2) (.var 4)) (.cst (.int 2))) (.cst (.int 1))) (.mth .get (.glo 3) (eL [(.sub (.var 0) (.var 4)), (.sub (.var 0) (.var 4))])) (.sub (.var 0) (.var 4)))]), 
  .ret (.var 3)]
def dF_line_seen : Df := ⟨"line_seen", topS 15, nm_line_seen, ["text", "begin"], false, false, 0, 0, b_line_seen⟩
/-- place_seen: statement 16, def 8 -/
def nm_place_seen : List Str := ["text", "begin", "place", "order"]
def b_place_seen : Ss := sL [
  .asg (.one 3) (.call 6 (eL [(.call 3 (eL [(.var 0), (.var 1)]))])), 
  .ite (.not (.chn (.cst (.int 0)) (.more .le (.var 2) (.last .lt (.blt .len (eL [(.var 3)])))))) (sL [
    .rai 0]) (sL []), 
  .ret (.mth .index (.var 3) (eL [(.var 2)]))]
def dF_place_seen : Df := ⟨"place_seen", topS 16, nm_place_seen, ["text", "begin", "place"], false, false, 0, 0, b_place_seen⟩
/-- runs_seen: statement 17, def 9 -/
def nm_runs_seen : List Str := ["text", "begin", "levels", "rows", "order", "place", "level", "row"]
def b_runs_seen : Ss := sL [
  .asg (.one 2) (.call 3 (eL [(.var 0), (.var 1)])), 
  .asg (.one 3) (.lst true (eL [])), 
  .for (.tup [(.one 5), (.one 6)]) (.enm (.var 2)) (sL [
    .ite (.and (.cmp .ne (.var 3) (.lst false (eL []))) (.cmp .eq (.sub (.sub (.var 3) (.neg (.cst (.int 1)))) (.cst (.int 2))) (.var 6))) (sL [
      .put (.var 3) (.neg (.cst (.int 1))) (.tup (eL [(.sub (.sub (.var 3) (.neg (.cst (.int 1)))) (.cst (.int 0))), (.bin .add (.var 5) (.cst (.int 1))), (.var 6)]))]) (sL [
      .app (.var 3) (.tup (eL [(.var 5), (.bin .add (.var 5) (.cst (.int 1))), (.var 6)]))])]), 
  .asg (.one 4) (.call 6 (eL [(.comp false (.one 7) (.seq (.var 3)) .none (.sub (.var 7) (.cst (.int 2))))])), 
  .ret (.gen .tuple (.one 5) (.seq (.var 4)) .none (.sub (.var 3) (.var 5)))]
def dF_runs_seen : Df := ⟨"runs_seen", topS 17, nm_runs_seen, ["text", "begin"], false, false, 0, 0, b_runs_seen⟩
/-- marked_within: statement 18, def 10 -/
def nm_marked_within : List Str := ["text", "first", "last", "order", "found", "spot", "place"]
def b_marked_within : Ss := sL [
  .ite (.not (.chn (.cst (.int 0)) (.more .le (.var 1) (.more .le (.var 2) (.last .le (.blt .len (eL [(.var 0)]))))))) (sL [
    .rai 0]) (sL []), 
  .asg (.one 3) (.call 6 (eL [(.call 3 (eL [(.var 0), (.call 2 (eL [(.var 0)]))]))])), 
  .asg (.one 4) (.lst true (eL [])), 
  .for (.tup [(.one 5), (.one 6)]) (.enm (.var 3)) (sL [
    .ite (.chn (.var 1) (.more .le (.var 6) (.last .lt (.var 2)))) (sL [
      .ite (.and (.cmp .ne (.var 4) (.lst false (eL []))) (.cmp .eq (.sub (.sub (.var 4) (.neg (.cst (.int 1)))) (.cst (.int 1))) (.var 5))) (sL [
        .put (.var 4) (.neg (.cst (.int 1))) (.tup (eL [(.sub (.sub (.var 4) (.neg (.cst (.int 1)))) (.cst (.int 0))), (.bin .add (.var 5) (.cst (.int 1)))]))]) (sL [
        .app (.var 4) (.tup (eL [(.var 5), (.bin .add (.var 5) (.cst (.int 1)))]))])]) (sL [])]), 
  .ret (.blt .tuple (eL [(.var 4)]))]
def dF_marked_within : Df := ⟨"marked_within", topS 18, nm_marked_within, ["text", "first", "last"], false, false, 0, 0, b_marked_within⟩
/-- is_mixed: statement 19, def 11 -/
def nm_is_mixed : List Str := ["text", "kinds", "sign"]
def b_is_mixed : Ss := sL [
  .asg (.one 1) (.comp false (.one 2) (.seq (.var 0)) .none (.call 1 (eL [(.var 2)]))), 
  .ret (.and (.cmp .isin (.cst (.str [76])) (.var 1)) (.cmp .isin (.cst (.str [82])) (.var 1)))]
def dF_is_mixed : Df := ⟨"is_mixed", topS 19, nm_is_mixed, ["text"], false, false, 0, 0, b_is_mixed⟩
/-- kept_apart: statement 20, def 12 -/
def nm_kept_apart : List Str := ["parts", "begin", "rows", "part"]
def b_kept_apart : Ss := sL [
  .ite (.cmp .nin (.var 1) (.tup (eL [(.cst (.int 0)), (.cst (.int 1))]))) (sL [
    .rai 0]) (sL []), 
  .asg (.one 2) (.comp false (.one 3) (.seq (.var 0)) .none (.call 7 (eL [(.var 3), (.call 2 (eL [(.var 3)]))]))), 
  .ret (.mth .join (.cst (.str [32])) (eL [(.ife (.cmp .eq (.var 1) (.cst (.int 0))) (.var 2) (.rev (.var 2)))]))]
def dF_kept_apart : Df := ⟨"kept_apart", topS 20, nm_kept_apart, ["parts", "begin"], false, false, 0, 0, b_kept_apart⟩
/-- lines_seen: statement 21, def 13 -/
def nm_lines_seen : List Str := ["text", "wide", "levels", "found", "place", "end", "spot", "cut", "part", "line", "rows", "one", "sign"]
def b_lines_seen : Ss := sL [
  .ite (.cmp .lt (.var 1) (.cst (.int 1))) (sL [
    .rai 0]) (sL []), 
  .asg (.tup [(.one 2), (.one 3), (.one 4)]) (.tup (eL [(.call 3 (eL [(.var 0), (.call 2 (eL [(.var 0)]))])), (.lst true (eL [])), (.cst (.int 0))])), 
  .whl (.cmp .lt (.var 4) (.blt .len (eL [(.var 0)]))) (sL [
    .asg (.one 5) (.blt .min (eL [(.blt .len (eL [(.var 0)])), (.bin .add (.var 4) (.var 1))])), 
    .asg (.one 6) (.mth .rfind (.var 0) (eL [(.cst (.str [32])), (.var 4), (.bin .add (.var 5) (.cst (.int 1)))])), 
    .asg (.one 7) (.ife (.and (.cmp .lt (.var 5) (.blt .len (eL [(.var 0)]))) (.cmp .gt (.var 6) (.var 4))) (.var 6) (.var 5)), 
    .asg (.one 8) (.call 6 (eL [(.slc (.var 2) (.some (.var 4)) (.some (.var 7)))])), 
    .asg (.one 9) (.comp false (.one 11) (.seq (.var 8)) .none (.sub (.var 0) (.bin .add (.var 4) (.var 11)))), 
    .asg (.one 10) (.comp false (.tup [(.one 12), (.one 11)]) (.zip (.var 9) (.var 8)) .none (.ife (.cmp .eq (.bin .mod (.sub (.var 2) (.bin .add (.var 4) (.var 11))) (.cst (.int 2))) (.cst (.int 1))) (.mth .get (.glo 3) (eL [(.var 12), (.var 12)])) (.var 12))), 
    .app (.var 3) (.mth .join (.cst (.str [])) (eL [(.var 10)])), 
    .asg (.one 4) (.ife (.cmp .eq (.slc (.var 0) (.some (.var 7)) (.some (.bin .add (.var 7) (.cst (.int 1))))) (.cst (.str [32]))) (.bin .add (.var 7) (.cst (.int 1))) (.var 7))]), 
  .ret (.blt .tuple (eL [(.var 3)]))]
def dF_lines_seen : Df := ⟨"lines_seen", topS 21, nm_lines_seen, ["text", "wide"], false, false, 0, 0, b_lines_seen⟩
/-- _law_dice: statement 23, def 14 -/
def nm__law_dice : List Str := ["cell"]
def b__law_dice : Ss := sL [
  .ite (.chn (.bin .sub (.cst (.int 0)) (.cst (.int 10))) (.more .lt (.var 0) (.last .lt (.cst (.int 10))))) (sL [
    .ret (.lst true (eL [(.blt .abs (eL [(.var 0)])), (.cst (.int 0)), (.cst (.int 2))]))]) (sL []), 
  .ret (.lst true (eL [(.var 0), (.bin .add (.cst (.int 1)) (.bin .mod (.blt .int (eL [(.var 0)])) (.cst (.int 1009)))), (.blt .int (eL [(.cmp .ge (.var 0) (.bin .pow (.cst (.int 10)) (.cst (.int 18))))]))]))]
def dF__law_dice : Df := ⟨"_law_dice", topS 23, nm__law_dice, ["cell"], true, false, 0, 0, b__law_dice⟩
/-- _law_roll: statement 24, def 15 -/
def nm__law_roll : List Str := ["dice", "many", "found"]
def b__law_roll : Ss := sL [
  .ite (.or (.cmp .eq (.sub (.var 0) (.cst (.int 2))) (.cst (.int 2))) (.and (.cmp .eq (.sub (.var 0) (.cst (.int 2))) (.cst (.int 1))) (.cmp .gt (.sub (.var 0) (.cst (.int 0))) (.cst (.int 0))))) (sL [
    .asg (.one 2) (.bin .mod (.blt .int (eL [(.sub (.var 0) (.cst (.int 0)))])) (.var 1)), 
    .put (.var 0) (.cst (.int 0)) (.bin .fdiv (.sub (.var 0) (.cst (.int 0))) (.var 1)), 
    .ret (.var 2)]) (sL []), 
  .put (.var 0) (.cst (.int 2)) (.cst (.int 0)), 
  .ite (.cmp .gt (.var 1) (.cst (.int 100000000))) (sL [
    .ret (.bin .mod (.blt .int (eL [(.bin .add (.bin .mul (.call 15 (eL [(.var 0), (.bin .add (.bin .fdiv (.var 1) (.cst (.int 100000000))) (.cst (.int 1)))])) (.cst (.int 100000000))) (.call 15 (eL [(.var 0), (.cst (.int 100000000))])))])) (.var 1))]) (sL []), 
  .put (.var 0) (.cst (.int 0)) (.bin .mod (.blt .int (eL [(.bin .add (.bin .add (.bin .mul (.sub (.var 0) (.cst (.int 0))) (.cst (.int 48271))) (.bin .mul (.sub (.var 0) (.cst (.int 1))) (.cst (.int 69621)))) (.cst (.int 11)))])) (.cst (.int 2147483647))), 
  .put (.var 0) (.cst (.int 1)) (.bin .add (.sub (.var 0) (.cst (.int 1))) (.cst (.int 1))), 
  .ret (.bin .mod (.blt .int (eL [(.bin .fdiv (.sub (.var 0) (.cst (.int 0))) (.cst (.int 7)))])) (.var 1))]
def dF__law_roll : Df := ⟨"_law_roll", topS 24, nm__law_roll, ["dice", "many"], false, false, 0, 0, b__law_roll⟩
/-- _law_rounds: statement 25, def 16 -/
def nm__law_rounds : List Str := ["script", "most", "cells", "cell"]
def b__law_rounds : Ss := sL [
  .asg (.one 2) (.slc (.var 0) .none (.some (.var 1))), 
  .ite (.cmp .eq (.var 2) (.lst false (eL []))) (sL [
    .asg (.one 2) (.lst false (eL [(.cst (.int 0))]))]) (sL []), 
  .ret (.comp false (.one 3) (.seq (.var 2)) .none (.call 14 (eL [(.var 3)])))]
def dF__law_rounds : Df := ⟨"_law_rounds", topS 25, nm__law_rounds, ["script", "most"], true, false, 0, 0, b__law_rounds⟩
/-- _law_told: statement 26, def 17 -/
def nm__law_told : List Str := ["what"]
def b__law_told : Ss := sL [
  .tryr (.callv 0) 0 (sL [
    .ret (.cst (.str [83, 105, 100, 101, 69, 114, 114, 111, 114]))])]
def dF__law_told : Df := ⟨"_law_told", topS 26, nm__law_told, ["what"], false, true, 0, 0, b__law_told⟩
/-- _law_line: statement 27, def 18 -/
def nm__law_line : List Str := ["dice", "most", "k"]
def b__law_line : Ss := sL [
  .ret (.mth .join (.cst (.str [])) (eL [(.comp false (.one 2) (.rng (eL [(.call 15 (eL [(.var 0), (.var 1)]))])) .none (.sub (.lst false (eL [(.cst (.str [97])), (.cst (.str [98])), (.cst (.str [65])), (.cst (.str [66])), (.cst (.str [49])), (.cst (.str [50])), (.cst (.str [46])), (.cst (.str [32])), (.cst (.str [40])), (.cst (.str [41])), (.cst (.str [44])), (.cst (.str [45]))])) (.call 15 (eL [(.var 0), (.cst (.int 12))]))))]))]
def dF__law_line : Df := ⟨"_law_line", topS 27, nm__law_line, ["dice", "most"], false, false, 0, 0, b__law_line⟩
/-- _law_kind: statement 28, def 19 -/
def nm__law_kind : List Str := ["text", "k", "sign"]
def b__law_kind : Ss := sL [
  .asg (.one 2) (.sub (.var 0) (.var 1)), 
  .ite (.or (.cmp .isin (.var 2) (.cst (.str [48, 49, 50, 51, 52, 53, 54, 55, 56, 57]))) (.and (.cmp .isin (.var 2) (.cst (.str [43, 45, 46, 44, 58]))) (.and (.chn (.cst (.int 0)) (.more .lt (.var 1) (.last .lt (.bin .sub (.blt .len (eL [(.var 0)])) (.cst (.int 1)))))) (.and (.cmp .isin (.sub (.var 0) (.bin .sub (.var 1) (.cst (.int 1)))) (.cst (.str [48, 49, 50, 51, 52, 53, 54, 55, 56, 57]))) (.cmp .isin (.sub (.var 0) (.bin .add (.var 1) (.cst (.int 1)))) (.cst (.str [48, 49, 50, 51, 52, 53, 54, 55, 56, 57]))))))) (sL [
    .ret (.cst (.str [78]))]) (sL []), 
  .ret (.ife (.cmp .isin (.var 2) (.cst (.str [97, 98, 99, 100, 101, 102, 103, 104, 105, 106, 107, 108, 109, 110, 111, 112, 113, 114, 115, 116, 117, 118, 119, 120, 121, 122]))) (.cst (.str [76])) (.ife (.cmp .isin (.var 2) (.cst (.str [65, 66, 67, 68, 69, 70, 71, 72, 73, 74, 75, 76, 77, 78, 79, 80, 81, 82, 83, 84, 85, 86, 87, 88, 89, 90]))) (.cst (.str [82])) (.cst (.str [66]))))]
def dF__law_kind : Df := ⟨"_law_kind", topS 28, nm__law_kind, ["text", "k"], false, false, 0, 0, b__law_kind⟩
/-- _law_levels: statement 29, def 20 -/
def nm__law_levels : List Str := ["text", "begin", "kind", "levels", "kinds", "last", "found", "k", "ahead", "behind", "sides", "one", "side"]
def b__law_levels : Ss := sL [
  .par [4, 5, 6] (eL [(.comp false (.one 7) (.rng (eL [(.blt .len (eL [(.var 0)]))])) .none (.call 19 (eL [(.var 0), (.var 7)]))), (.sub (.cst (.str [76, 82])) (.var 1)), (.lst false (eL []))]), 
  .for (.one 2) (.seq (.var 4)) (sL [
    .asg (.one 5) (.ife (.cmp .isin (.var 2) (.cst (.str [76, 82]))) (.var 2) (.var 5)), 
    .asg (.one 6) (.bin .add (.var 6) (.lst false (eL [(.ife (.and (.cmp .eq (.var 2) (.cst (.str [78]))) (.cmp .eq (.var 5) (.cst (.str [76])))) (.cst (.str [76])) (.var 2))])))]), 
  .asg (.one 3) (.lst false (eL [])), 
  .for (.tup [(.one 7), (.one 2)]) (.enm (.var 6)) (sL [
    .asg (.one 8) (.comp false (.one 11) (.seq (.slc (.var 6) .none (.some (.var 7)))) (.some (.cmp .ne (.var 11) (.cst (.str [66])))) (.var 11)), 
    .asg (.one 9) (.comp false (.one 11) (.seq (.slc (.var 6) (.some (.var 7)) .none)) (.some (.cmp .ne (.var 11) (.cst (.str [66])))) (.var 11)), 
    .asg (.one 10) (.lst false (eL [(.ife (.cmp .ne (.var 8) (.lst false (eL []))) (.sub (.var 8) (.neg (.cst (.int 1)))) (.sub (.cst (.str [76, 82])) (.var 1))), (.ife (.cmp .ne (.var 9) (.lst false (eL []))) (.sub (.var 9) (.cst (.int 0))) (.sub (.cst (.str [76, 82])) (.var 1)))])), 
    .asg (.one 10) (.comp false (.one 12) (.seq (.var 10)) .none (.ife (.cmp .eq (.var 12) (.cst (.str [76]))) (.cst (.str [76])) (.cst (.str [82])))), 
    .asg (.one 2) (.ife (.cmp .ne (.var 2) (.cst (.str [66]))) (.var 2) (.ife (.cmp .eq (.sub (.var 10) (.cst (.int 0))) (.sub (.var 10) (.cst (.int 1)))) (.sub (.var 10) (.cst (.int 0))) (.cst (.str [])))), 
    .asg (.one 3) (.bin .add (.var 3) (.lst false (eL [(.sub (.dic false (eL [(.cst (.str [82])), (.cst (.int 1)), (.cst (.str [78])), (.cst (.int 2)), (.cst (.str [76])), (.bin .mul (.cst (.int 2)) (.var 1)), (.cst (.str [])), (.var 1)])) (.var 2))])))]), 
  .ret (.var 3)]
def dF__law_levels : Df := ⟨"_law_levels", topS 29, nm__law_levels, ["text", "begin"], false, false, 0, 0, b__law_levels⟩
/-- _law_order: statement 30, def 21 -/
def nm__law_order : List Str := ["levels", "order", "level", "place", "found", "run"]
def b__law_order : Ss := sL [
  .asg (.one 1) (.lrng false (eL [(.blt .len (eL [(.var 0)]))])), 
  .for (.one 2) (.seq (.lst false (eL [(.cst (.int 2)), (.cst (.int 1))]))) (sL [
    .par [4, 5] (eL [(.lst false (eL [])), (.lst false (eL []))]), 
    .for (.one 3) (.seq (.var 1)) (sL [
      .ite (.cmp .ge (.sub (.var 0) (.var 3)) (.var 2)) (sL [
        .asg (.one 5) (.bin .add (.lst false (eL [(.var 3)])) (.var 5))]) (sL [
        .par [4, 5] (eL [(.bin .add (.bin .add (.var 4) (.var 5)) (.lst false (eL [(.var 3)]))), (.lst false (eL []))])])]), 
    .asg (.one 1) (.bin .add (.var 4) (.var 5))]), 
  .ret (.var 1)]
def dF__law_order : Df := ⟨"_law_order", topS 30, nm__law_order, ["levels"], false, false, 0, 0, b__law_order⟩
/-- _law_seen: statement 31, def 22 -/
def nm__law_seen : List Str := ["text", "levels", "order", "turn", "k"]
def b__law_seen : Ss := sL [
  .asg (.one 3) (.dic false (eL [(.cst (.str [40])), (.cst (.str [41])), (.cst (.str [41])), (.cst (.str [40])), (.cst (.str [91])), (.cst (.str [93])), (.cst (.str [93])), (.cst (.str [91])), (.cst (.str [60])), (.cst (.str [62])), (.cst (.str [62])), (.cst (.str [60]))])), 
  .ret (.mth .join (.cst (.str [])) (eL [(.comp false (.one 4) (.seq (.var 2)) .none (.ife (.cmp .eq (.sub (.var 1) (.var 4)) (.cst (.int 1))) (.mth .get (.var 3) (eL [(.sub (.var 0) (.var 4)), (.sub (.var 0) (.var 4))])) (.sub (.var 0) (.var 4))))]))]
def dF__law_seen : Df := ⟨"_law_seen", topS 31, nm__law_seen, ["text", "levels", "order"], false, false, 0, 0, b__law_seen⟩
/-- _law_begin: statement 32, def 23 -/
def nm__law_begin : List Str := ["text", "letters", "sign"]
def b__law_begin : Ss := sL [
  .asg (.one 1) (.comp false (.one 2) (.seq (.var 0)) (.some (.cmp .isin (.call 19 (eL [(.var 2), (.cst (.int 0))])) (.cst (.str [76, 82])))) (.var 2)), 
  .ret (.blt .int (eL [(.and (.cmp .ne (.var 1) (.lst false (eL []))) (.cmp .eq (.call 19 (eL [(.sub (.var 1) (.cst (.int 0))), (.cst (.int 0))])) (.cst (.str [82]))))]))]
def dF__law_begin : Df := ⟨"_law_begin", topS 32, nm__law_begin, ["text"], false, false, 0, 0, b__law_begin⟩
/-- _law_rows: statement 33, def 24 -/
def nm__law_rows : List Str := ["text", "wide", "levels", "found", "k", "end", "blanks", "cut", "j"]
def b__law_rows : Ss := sL [
  .par [2, 3, 4] (eL [(.call 20 (eL [(.var 0), (.call 23 (eL [(.var 0)]))])), (.lst false (eL [])), (.cst (.int 0))]), 
  .whl (.cmp .lt (.var 4) (.blt .len (eL [(.var 0)]))) (sL [
    .asg (.one 5) (.blt .min (eL [(.blt .len (eL [(.var 0)])), (.bin .add (.var 4) (.var 1))])), 
    .asg (.one 6) (.comp false (.one 8) (.rng (eL [(.bin .add (.var 4) (.cst (.int 1))), (.blt .min (eL [(.blt .len (eL [(.var 0)])), (.bin .add (.bin .add (.var 4) (.var 1)) (.cst (.int 1)))]))])) (.some (.cmp .eq (.sub (.var 0) (.var 8)) (.cst (.str [32])))) (.var 8)), 
    .asg (.one 7) (.ife (.and (.cmp .lt (.var 5) (.blt .len (eL [(.var 0)]))) (.cmp .ne (.var 6) (.lst false (eL [])))) (.sub (.var 6) (.neg (.cst (.int 1)))) (.var 5)), 
    .asg (.one 3) (.bin .add (.var 3) (.lst false (eL [(.call 22 (eL [(.slc (.var 0) (.some (.var 4)) (.some (.var 7))), (.slc (.var 2) (.some (.var 4)) (.some (.var 7))), (.call 21 (eL [(.slc (.var 2) (.some (.var 4)) (.some (.var 7)))]))]))]))), 
    .asg (.one 4) (.bin .add (.var 7) (.blt .int (eL [(.cmp .eq (.slc (.var 0) (.some (.var 7)) (.some (.bin .add (.var 7) (.cst (.int 1))))) (.cst (.str [32])))])))]), 
  .ret (.var 3)]
def dF__law_rows : Df := ⟨"_law_rows", topS 33, nm__law_rows, ["text", "wide"], false, false, 0, 0, b__law_rows⟩
/-- _law_plain: statement 34, def 25 -/
def nm__law_plain : List Str := ["bad", "told", "due", "f", "sign"]
def b__law_plain : Ss := sL [
  .asg (.one 0) (.lst false (eL [(.lam 0), (.lam 1), (.lam 2), (.lam 3), (.lam 4)])), 
  .asg (.one 0) (.bin .add (.var 0) (.lst false (eL [(.lam 5), (.lam 6), (.lam 7), (.lam 8)]))), 
  .asg (.one 0) (.bin .add (.var 0) (.lst false (eL [(.lam 9), (.lam 10), (.lam 11), (.lam 12)]))), 
  .ite (.cmp .ne (.comp false (.one 3) (.seq (.var 0)) (.some (.cmp .ne (.call 17 (eL [(.var 3)])) (.cst (.str [83, 105, 100, 101, 69, 114, 114, 111, 114])))) (.cst (.int 1))) (.lst false (eL []))) (sL [
    .ret (.cst (.bl false))]) (sL []), 
  .ite (.cmp .ne (.tup (eL [(.blt .len (eL [(.glo 1)])), (.blt .len (eL [(.glo 2)])), (.glo 0), (.blt .len (eL [(.lsof false (.glo 3))]))])) (.tup (eL [(.cst (.int 26)), (.cst (.int 26)), (.cst (.int 80)), (.cst (.int 6))]))) (sL [
    .ret (.cst (.bl false))]) (sL []), 
  .asg (.one 1) (.lst false (eL [(.call 3 (eL [(.cst (.str [97, 98, 99, 32, 68, 69, 70, 32, 49, 50, 32, 103])), (.cst (.int 0))])), (.call 7 (eL [(.cst (.str [97, 98, 99, 32, 68, 69, 70, 32, 40, 71, 72, 41, 32, 49, 50, 44, 32, 120])), (.cst (.int 0))])), (.call 7 (eL [(.cst (.str [65, 78, 78, 32, 100, 101, 102, 32, 49, 50])), (.cst (.int 1))])), (.call 8 (eL [(.cst (.str [97, 32, 66, 67])), (.cst (.int 0)), (.cst (.int 2))])), (.call 9 (eL [(.cst (.str [97, 32, 66, 67])), (.cst (.int 0))]))])), 
  .asg (.one 1) (.bin .add (.var 1) (.lst false (eL [(.call 10 (eL [(.cst (.str [97, 98, 32, 67, 68, 69])), (.cst (.int 1)), (.cst (.int 4))])), (.call 12 (eL [(.tup (eL [(.cst (.str [65, 66])), (.cst (.str [99, 100]))])), (.cst (.int 1))])), (.call 13 (eL [(.cst (.str [65, 78, 78, 32, 68, 69, 70, 32, 71, 72, 73])), (.cst (.int 7))])), (.comp false (.one 4) (.seq (.cst (.str [97, 65, 49, 46, 40]))) .none (.call 1 (eL [(.var 4)])))]))), 
  .asg (.one 1) (.bin .add (.var 1) (.lst false (eL [(.call 4 (eL [(.cst (.str [65, 32, 49])), (.cst (.int 0))])), (.call 5 (eL [(.lst false (eL [(.cst (.str [76])), (.cst (.str [66])), (.cst (.str [82]))])), (.cst (.int 0))])), (.call 6 (eL [(.tup (eL [(.cst (.int 1)), (.cst (.int 2)), (.cst (.int 1))]))]))]))), 
  .asg (.one 2) (.lst false (eL [(.tup (eL [(.cst (.int 0)), (.cst (.int 0)), (.cst (.int 0)), (.cst (.int 0)), (.cst (.int 1)), (.cst (.int 1)), (.cst (.int 1)), (.cst (.int 1)), (.cst (.int 2)), (.cst (.int 2)), (.cst (.int 0)), (.cst (.int 0))])), (.cst (.str [97, 98, 99, 32, 49, 50, 32, 40, 72, 71, 41, 32, 70, 69, 68, 44, 32, 120])), (.cst (.str [100, 101, 102, 32, 49, 50, 32, 78, 78, 65])), (.cst (.int 3)), (.tup (eL [(.tup (eL [(.cst (.int 0)), (.cst (.int 2)), (.cst (.int 0))])), (.tup (eL [(.cst (.int 2)), (.cst (.int 4)), (.cst (.int 1))]))])), (.tup (eL [(.tup (eL [(.cst (.int 1)), (.cst (.int 3))])), (.tup (eL [(.cst (.int 5)), (.cst (.int 6))]))])), (.cst (.str [99, 100, 32, 66, 65]))])), 
  .asg (.one 2) (.bin .add (.var 2) (.lst false (eL [(.tup (eL [(.cst (.str [70, 69, 68, 32, 78, 78, 65])), (.cst (.str [73, 72, 71]))])), (.lst false (eL [(.cst (.str [76])), (.cst (.str [82])), (.cst (.str [78])), (.cst (.str [83])), (.cst (.str [66]))])), (.lst false (eL [(.cst (.str [82])), (.cst (.str [82])), (.cst (.str [78]))])), (.lst false (eL [(.cst (.str [76])), (.cst (.str [])), (.cst (.str [82]))])), (.tup (eL [(.cst (.int 2)), (.cst (.int 1)), (.cst (.int 0))]))]))), 
  .ret (.cmp .eq (.var 1) (.var 2))]
def dF__law_plain : Df := ⟨"_law_plain", topS 34, nm__law_plain, [], false, false, 0, 13, b__law_plain⟩
/-- law: statement 35, def 26 -/
def nm_law : List Str := ["script", "dice", "levels", "order", "rows", "places", "first", "last", "own", "k", "parts", "shown", "wide", "every", "text", "begin", "level", "spots", "due", "part", "row", "place", "sign", "a", "b"]
def b_law : Ss := sL [
  .for (.one 1) (.seq (.call 16 (eL [(.var 0), (.cst (.int 1))]))) (sL [
    .asg (.tup [(.one 14), (.one 15)]) (.tup (eL [(.call 18 (eL [(.var 1), (.cst (.int 16))])), (.call 15 (eL [(.var 1), (.cst (.int 2))]))])), 
    .asg (.one 2) (.call 20 (eL [(.var 14), (.var 15)])), 
    .asg (.one 3) (.call 21 (eL [(.var 2)])), 
    .ite (.or (.cmp .ne (.lsof false (.call 3 (eL [(.var 14), (.var 15)]))) (.var 2)) (.cmp .ne (.lsof false (.call 6 (eL [(.var 2)]))) (.var 3))) (sL [
      .ret (.cst (.bl false))]) (sL []), 
    .ite (.or (.cmp .ne (.blt .sorted (eL [(.var 3)])) (.lrng false (eL [(.blt .len (eL [(.var 14)]))]))) (.cmp .ne (.call 7 (eL [(.var 14), (.var 15)])) (.call 22 (eL [(.var 14), (.var 2), (.var 3)])))) (sL [
      .ret (.cst (.bl false))]) (sL []), 
    .ite (.cmp .ne (.call 2 (eL [(.var 14)])) (.call 23 (eL [(.var 14)]))) (sL [
      .ret (.cst (.bl false))]) (sL []), 
    .ite (.cmp .ne (.call 11 (eL [(.var 14)])) (.and (.cmp .ne (.comp false (.one 22) (.seq (.var 14)) (.some (.cmp .isin (.var 22) (.cst (.str [97, 98])))) (.cst (.int 1))) (.lst false (eL []))) (.cmp .ne (.comp false (.one 22) (.seq (.var 14)) (.some (.cmp .isin (.var 22) (.cst (.str [65, 66])))) (.cst (.int 1))) (.lst false (eL []))))) (sL [
      .ret (.cst (.bl false))]) (sL []), 
    .ite (.cmp .ne (.comp false (.one 9) (.rng (eL [(.blt .len (eL [(.var 14)]))])) .none (.call 8 (eL [(.var 14), (.var 15), (.var 9)]))) (.comp false (.one 9) (.rng (eL [(.blt .len (eL [(.var 14)]))])) .none (.mth .index (.var 3) (eL [(.var 9)])))) (sL [
      .ret (.cst (.bl false))]) (sL []), 
    .asg (.one 4) (.lst false (eL [])), 
    .for (.tup [(.one 9), (.one 16)]) (.enm (.var 2)) (sL [
      .asg (.one 4) (.ife (.and (.cmp .ne (.var 4) (.lst false (eL []))) (.cmp .eq (.sub (.sub (.var 4) (.neg (.cst (.int 1)))) (.cst (.int 2))) (.var 16))) (.bin .add (.slc (.var 4) .none (.some (.neg (.cst (.int 1))))) (.lst false (eL [(.tup (eL [(.sub (.sub (.var 4) (.neg (.cst (.int 1)))) (.cst (.int 0))), (.bin .add (.var 9) (.cst (.int 1))), (.var 16)]))]))) (.bin .add (.var 4) (.lst false (eL [(.tup (eL [(.var 9), (.bin .add (.var 9) (.cst (.int 1))), (.var 16)]))]))))]), 
    .asg (.one 5) (.call 21 (eL [(.comp false (.one 20) (.seq (.var 4)) .none (.sub (.var 20) (.cst (.int 2))))])), 
    .ite (.cmp .ne (.lsof false (.call 9 (eL [(.var 14), (.var 15)]))) (.comp false (.one 9) (.seq (.var 5)) .none (.sub (.var 4) (.var 9)))) (sL [
      .ret (.cst (.bl false))]) (sL []), 
    .asg (.one 6) (.call 15 (eL [(.var 1), (.bin .add (.blt .len (eL [(.var 14)])) (.cst (.int 1)))])), 
    .asg (.one 7) (.bin .add (.var 6) (.call 15 (eL [(.var 1), (.bin .add (.bin .sub (.blt .len (eL [(.var 14)])) (.var 6)) (.cst (.int 1)))]))), 
    .asg (.one 8) (.call 21 (eL [(.call 20 (eL [(.var 14), (.call 23 (eL [(.var 14)]))]))])), 
    .par [17, 18] (eL [(.comp false (.tup [(.one 9), (.one 21)]) (.enm (.var 8)) (.some (.chn (.var 6) (.more .le (.var 21) (.last .lt (.var 7))))) (.var 9)), (.lst false (eL []))]), 
    .for (.one 9) (.seq (.var 17)) (sL [
      .asg (.one 18) (.ife (.and (.cmp .ne (.var 18) (.lst false (eL []))) (.cmp .eq (.sub (.sub (.var 18) (.neg (.cst (.int 1)))) (.cst (.int 1))) (.var 9))) (.bin .add (.slc (.var 18) .none (.some (.neg (.cst (.int 1))))) (.lst false (eL [(.tup (eL [(.sub (.sub (.var 18) (.neg (.cst (.int 1)))) (.cst (.int 0))), (.bin .add (.var 9) (.cst (.int 1)))]))]))) (.bin .add (.var 18) (.lst false (eL [(.tup (eL [(.var 9), (.bin .add (.var 9) (.cst (.int 1)))]))]))))]), 
    .ite (.or (.cmp .ne (.lsof false (.call 10 (eL [(.var 14), (.var 6), (.var 7)]))) (.var 18)) (.cmp .ne (.blt .sum (eL [(.comp false (.tup [(.one 23), (.one 24)]) (.seq (.var 18)) .none (.bin .sub (.var 24) (.var 23)))])) (.bin .sub (.var 7) (.var 6)))) (sL [
      .ret (.cst (.bl false))]) (sL []), 
    .asg (.one 10) (.comp false (.one 9) (.rng (eL [(.call 15 (eL [(.var 1), (.cst (.int 4))]))])) .none (.call 18 (eL [(.var 1), (.cst (.int 6))]))), 
    .asg (.one 11) (.comp false (.one 19) (.seq (.var 10)) .none (.call 22 (eL [(.var 19), (.call 20 (eL [(.var 19), (.call 23 (eL [(.var 19)]))])), (.call 21 (eL [(.call 20 (eL [(.var 19), (.call 23 (eL [(.var 19)]))]))]))]))), 
    .ite (.cmp .ne (.call 12 (eL [(.var 10), (.var 15)])) (.mth .join (.cst (.str [32])) (eL [(.ife (.cmp .eq (.var 15) (.cst (.int 1))) (.rev (.var 11)) (.var 11))]))) (sL [
      .ret (.cst (.bl false))]) (sL []), 
    .asg (.one 12) (.bin .add (.cst (.int 1)) (.call 15 (eL [(.var 1), (.cst (.int 9))]))), 
    .ite (.cmp .ne (.lsof false (.call 13 (eL [(.var 14), (.var 12)]))) (.call 24 (eL [(.var 14), (.var 12)]))) (sL [
      .ret (.cst (.bl false))]) (sL []), 
    .asg (.one 2) (.comp false (.one 9) (.rng (eL [(.call 15 (eL [(.var 1), (.cst (.int 9))]))])) .none (.call 15 (eL [(.var 1), (.cst (.int 5))]))), 
    .asg (.one 13) (.lrng false (eL [(.blt .len (eL [(.var 2)]))])), 
    .ite (.cmp .ne (.blt .sorted (eL [(.call 6 (eL [(.var 2)]))])) (.var 13)) (sL [
      .ret (.cst (.bl false))]) (sL []), 
    .ite (.and (.cmp .ne (.var 2) (.lst false (eL []))) (.and (.cmp .eq (.blt .max (eL [(.var 2)])) (.blt .min (eL [(.var 2)]))) (.cmp .ne (.lsof false (.call 6 (eL [(.var 2)]))) (.ife (.cmp .eq (.bin .mod (.sub (.var 2) (.cst (.int 0))) (.cst (.int 2))) (.cst (.int 0))) (.var 13) (.rev (.var 13)))))) (sL [
      .ret (.cst (.bl false))]) (sL [])]), 
  .ret (.call 25 (eL []))]
def dF_law : Df := ⟨"law", topS 35, nm_law, ["script"], false, false, 13, 13, b_law⟩
def pkK : Pk := ⟨[dF_check_line, dF_kind_of_sign, dF_begin_of, dF_levels_of, dF_plain_kinds, dF_with_between, dF_seen_order, dF_line_seen, dF_place_seen, dF_runs_seen, dF_marked_within, dF_is_mixed, dF_kept_apart, dF_lines_seen, dF__law_dice, dF__law_roll, dF__law_rounds, dF__law_told, dF__law_line, dF__law_kind, dF__law_levels, dF__law_order, dF__law_seen, dF__law_begin, dF__law_rows, dF__law_plain, dF_law], fnsK, globsK, gvK, excsK, lamsK⟩
theorem ck_check_line : okB ⟨pkK.cfg dF_check_line, defScope (topS 8), true⟩ b_check_line (defBody (topS 8)) = true := by decide +kernel
theorem sc_check_line : FnScope nm_check_line dF_check_line.ps (defScope (topS 8)) := ⟨rfl, rfl, rfl, by decide +kernel, rfl, by decide +kernel, by decide +kernel⟩
theorem bi_check_line (kV doc pm : Value) (an : Option Addr) (cdv ct : Value) (us : List Value) (hl : us.length = dF_check_line.ps.length) : bindArgs (PySem.W.fnOf dF_check_line.name dF_check_line.name (defArgs (topS 8)) (defBody (topS 8)) (defScope (topS 8)) .none kV doc pm an cdv ct) ⟨us, []⟩ = pure (dF_check_line.ps.zip us) := match us, hl with | [_], _ => rfl
theorem ck_kind_of_sign : okB ⟨pkK.cfg dF_kind_of_sign, defScope (topS 9), true⟩ b_kind_of_sign (defBody (topS 9)) = true := by decide +kernel
theorem sc_kind_of_sign : FnScope nm_kind_of_sign dF_kind_of_sign.ps (defScope (topS 9)) := ⟨rfl, rfl, rfl, by decide +kernel, rfl, by decide +kernel, by decide +kernel⟩
theorem bi_kind_of_sign (kV doc pm : Value) (an : Option Addr) (cdv ct : Value) (us : List Value) (hl : us.length = dF_kind_of_sign.ps.length) : bindArgs (PySem.W.fnOf dF_kind_of_sign.name dF_kind_of_sign.name (defArgs (topS 9)) (defBody (topS 9)) (defScope (topS 9)) .none kV doc pm an cdv ct) ⟨us, []⟩ = pure (dF_kind_of_sign.ps.zip us) := match us, hl with | [_], _ => rfl
theorem ck_begin_of : okB ⟨pkK.cfg dF_begin_of, defScope (topS 10), true⟩ b_begin_of (defBody (topS 10)) = true := by decide +kernel
theorem sc_begin_of : FnScope nm_begin_of dF_begin_of.ps (defScope (topS 10)) := ⟨rfl, rfl, rfl, by decide +kernel, rfl, by decide +kernel, by decide +kernel⟩
theorem bi_begin_of (kV doc pm : Value) (an : Option Addr) (cdv ct : Value) (us : List Value) (hl : us.length = dF_begin_of.ps.length) : bindArgs (PySem.W.fnOf dF_begin_of.name dF_begin_of.name (defArgs (topS 10)) (defBody (topS 10)) (defScope (topS 10)) .none kV doc pm an cdv ct) ⟨us, []⟩ = pure (dF_begin_of.ps.zip us) := match us, hl with | [_], _ => rfl
theorem ck_levels_of : okB ⟨pkK.cfg dF_levels_of, defScope (topS 11), true⟩ b_levels_of (defBody (topS 11)) = true := by decide +kernel
theorem sc_levels_of : FnScope nm_levels_of dF_levels_of.ps (defScope (topS 11)) := ⟨rfl, rfl, rfl, by decide +kernel, rfl, by decide +kernel, by decide +kernel⟩
theorem bi_levels_of (kV doc pm : Value) (an : Option Addr) (cdv ct : Value) (us : List Value) (hl : us.length = dF_levels_of.ps.length) : bindArgs (PySem.W.fnOf dF_levels_of.name dF_levels_of.name (defArgs (topS 11)) (defBody (topS 11)) (defScope (topS 11)) .none kV doc pm an cdv ct) ⟨us, []⟩ = pure (dF_levels_of.ps.zip us) := match us, hl with | [_, _], _ => rfl
theorem ck_plain_kinds : okB ⟨pkK.cfg dF_plain_kinds, defScope (topS 12), true⟩ b_plain_kinds (defBody (topS 12)) = true := by decide +kernel
theorem sc_plain_kinds : FnScope nm_plain_kinds dF_plain_kinds.ps (defScope (topS 12)) := ⟨rfl, rfl, rfl, by decide +kernel, rfl, by decide +kernel, by decide +kernel⟩
theorem bi_plain_kinds (kV doc pm : Value) (an : Option Addr) (cdv ct : Value) (us : List Value) (hl : us.length = dF_plain_kinds.ps.length) : bindArgs (PySem.W.fnOf dF_plain_kinds.name dF_plain_kinds.name (defArgs (topS 12)) (defBody (topS 12)) (defScope (topS 12)) .none kV doc pm an cdv ct) ⟨us, []⟩ = pure (dF_plain_kinds.ps.zip us) := match us, hl with | [_, _], _ => rfl
theorem ck_with_between : okB ⟨pkK.cfg dF_with_between, defScope (topS 13), true⟩ b_with_between (defBody (topS 13)) = true := by decide +kernel
theorem sc_with_between : FnScope nm_with_between dF_with_between.ps (defScope (topS 13)) := ⟨rfl, rfl, rfl, by decide +kernel, rfl, by decide +kernel, by decide +kernel⟩
theorem bi_with_between (kV doc pm : Value) (an : Option Addr) (cdv ct : Value) (us : List Value) (hl : us.length = dF_with_between.ps.length) : bindArgs (PySem.W.fnOf dF_with_between.name dF_with_between.name (defArgs (topS 13)) (defBody (topS 13)) (defScope (topS 13)) .none kV doc pm an cdv ct) ⟨us, []⟩ = pure (dF_with_between.ps.zip us) := match us, hl with | [_, _], _ => rfl
theorem ck_seen_order : okB ⟨pkK.cfg dF_seen_order, defScope (topS 14), true⟩ b_seen_order (defBody (topS 14)) = true := by decide +kernel
theorem sc_seen_order : FnScope nm_seen_order dF_seen_order.ps (defScope (topS 14)) := ⟨rfl, rfl, rfl, by decide +kernel, rfl, by decide +kernel, by decide +kernel⟩
theorem bi_seen_order (kV doc pm : Value) (an : Option Addr) (cdv ct : Value) (us : List Value) (hl : us.length = dF_seen_order.ps.length) : bindArgs (PySem.W.fnOf dF_seen_order.name dF_seen_order.name (defArgs (topS 14)) (defBody (topS 14)) (defScope (topS 14)) .none kV doc pm an cdv ct) ⟨us, []⟩ = pure (dF_seen_order.ps.zip us) := match us, hl with | [_], _ => rfl
theorem ck_line_seen : okB ⟨pkK.cfg dF_line_seen, defScope (topS 15), true⟩ b_line_seen (defBody (topS 15)) = true := by decide +kernel
theorem sc_line_seen : FnScope nm_line_seen dF_line_seen.ps (defScope (topS 15)) := ⟨rfl, rfl, rfl, by decide +kernel, rfl, by decide +kernel, by decide +kernel⟩
theorem bi_line_seen (kV doc pm : Value) (an : Option Addr) (cdv ct : Value) (us : List Value) (hl : us.length = dF_line_seen.ps.length) : bindArgs (PySem.W.fnOf dF_line_seen.name dF_line_seen.name (defArgs (topS 15)) (defBody (topS 15)) (defScope (topS 15)) .none kV doc pm an cdv ct) ⟨us, []⟩ = pure (dF_line_seen.ps.zip us) := match us, hl with | [_, _], _ => rfl
theorem ck_place_seen : okB ⟨pkK.cfg dF_place_seen, defScope (topS 16), true⟩ b_place_seen (defBody (topS 16)) = true := by decide +kernel
theorem sc_place_seen : FnScope nm_place_seen dF_place_seen.ps (defScope (topS 16)) := ⟨rfl, rfl, rfl, by decide +kernel, rfl, by decide +kernel, by decide +kernel⟩
theorem bi_place_seen (kV doc pm : Value) (an : Option Addr) (cdv ct : Value) (us : List Value) (hl : us.length = dF_place_seen.ps.length) : bindArgs (PySem.W.fnOf dF_place_seen.name dF_place_seen.name (defArgs (topS 16)) (defBody (topS 16)) (defScope (topS 16)) .none kV doc pm an cdv ct) ⟨us, []⟩ = pure (dF_place_seen.ps.zip us) := match us, hl with | [_, _, _], _ => rfl
theorem ck_runs_seen : okB ⟨pkK.cfg dF_runs_seen, defScope (topS 17), true⟩ b_runs_seen (defBody (topS 17)) = true := by decide +kernel
theorem sc_runs_seen : FnScope nm_runs_seen dF_runs_seen.ps (defScope (topS 17)) := ⟨rfl, rfl, rfl, by decide +kernel, rfl, by decide +kernel, by decide +kernel⟩
theorem bi_runs_seen (kV doc pm : Value) (an : Option Addr) (cdv ct : Value) (us : List Value) (hl : us.length = dF_runs_seen.ps.length) : bindArgs (PySem.W.fnOf dF_runs_seen.name dF_runs_seen.name (defArgs (topS 17)) (defBody (topS 17)) (defScope (topS 17)) .none kV doc pm an cdv ct) ⟨us, []⟩ = pure (dF_runs_seen.ps.zip us) := match us, hl with | [_, _], _ => rfl
theorem ck_marked_within : okB ⟨pkK.cfg dF_marked_within, defScope (topS 18), true⟩ b_marked_within (defBody (topS 18)) = true := by decide +kernel
theorem sc_marked_within : FnScope nm_marked_within dF_marked_within.ps (defScope (topS 18)) := ⟨rfl, rfl, rfl, by decide +kernel, rfl, by decide +kernel, by decide +kernel⟩
theorem bi_marked_within (kV doc pm : Value) (an : Option Addr) (cdv ct : Value) (us : List Value) (hl : us.length = dF_marked_within.ps.length) : bindArgs (PySem.W.fnOf dF_marked_within.name dF_marked_within.name (defArgs (topS 18)) (defBody (topS 18)) (defScope (topS 18)) .none kV doc pm an cdv ct) ⟨us, []⟩ = pure (dF_marked_within.ps.zip us) := match us, hl with | [_, _, _], _ => rfl
theorem ck_is_mixed : okB ⟨pkK.cfg dF_is_mixed, defScope (topS 19), true⟩ b_is_mixed (defBody (topS 19)) = true := by decide +kernel
theorem sc_is_mixed : FnScope nm_is_mixed dF_is_mixed.ps (defScope (topS 19)) := ⟨rfl, rfl, rfl, by decide +kernel, rfl, by decide +kernel, by decide +kernel⟩
theorem bi_is_mixed (kV doc pm : Value) (an : Option Addr) (cdv ct : Value) (us : List Value) (hl : us.length = dF_is_mixed.ps.length) : bindArgs (PySem.W.fnOf dF_is_mixed.name dF_is_mixed.name (defArgs (topS 19)) (defBody (topS 19)) (defScope (topS 19)) .none kV doc pm an cdv ct) ⟨us, []⟩ = pure (dF_is_mixed.ps.zip us) := match us, hl with | [_], _ => rfl
theorem ck_kept_apart : okB ⟨pkK.cfg dF_kept_apart, defScope (topS 20), true⟩ b_kept_apart (defBody (topS 20)) = true := by decide +kernel
theorem sc_kept_apart : FnScope nm_kept_apart dF_kept_apart.ps (defScope (topS 20)) := ⟨rfl, rfl, rfl, by decide +kernel, rfl, by decide +kernel, by decide +kernel⟩
theorem bi_kept_apart (kV doc pm : Value) (an : Option Addr) (cdv ct : Value) (us : List Value) (hl : us.length = dF_kept_apart.ps.length) : bindArgs (PySem.W.fnOf dF_kept_apart.name dF_kept_apart.name (defArgs (topS 20)) (defBody (topS 20)) (defScope (topS 20)) .none kV doc pm an cdv ct) ⟨us, []⟩ = pure (dF_kept_apart.ps.zip us) := match us, hl with | [_, _], _ => rfl
theorem ck_lines_seen : okB ⟨pkK.cfg dF_lines_seen, defScope (topS 21), true⟩ b_lines_seen (defBody (topS 21)) = true := by decide +kernel
theorem sc_lines_seen : FnScope nm_lines_seen dF_lines_seen.ps (defScope (topS 21)) := ⟨rfl, rfl, rfl, by decide +kernel, rfl, by decide +kernel, by decide +kernel⟩
theorem bi_lines_seen (kV doc pm : Value) (an : Option Addr) (cdv ct : Value) (us : List Value) (hl : us.length = dF_lines_seen.ps.length) : bindArgs (PySem.W.fnOf dF_lines_seen.name dF_lines_seen.name (defArgs (topS 21)) (defBody (topS 21)) (defScope (topS 21)) .none kV doc pm an cdv ct) ⟨us, []⟩ = pure (dF_lines_seen.ps.zip us) := match us, hl with | [_, _], _ => rfl
theorem ck__law_dice : okB ⟨pkK.cfg dF__law_dice, defScope (topS 23), true⟩ b__law_dice (defBody (topS 23)) = true := by decide +kernel
theorem sc__law_dice : FnScope nm__law_dice dF__law_dice.ps (defScope (topS 23)) := ⟨rfl, rfl, rfl, by decide +kernel, rfl, by decide +kernel, by decide +kernel⟩
theorem bi__law_dice (kV doc pm : Value) (an : Option Addr) (cdv ct : Value) (us : List Value) (hl : us.length = dF__law_dice.ps.length) : bindArgs (PySem.W.fnOf dF__law_dice.name dF__law_dice.name (defArgs (topS 23)) (defBody (topS 23)) (defScope (topS 23)) .none kV doc pm an cdv ct) ⟨us, []⟩ = pure (dF__law_dice.ps.zip us) := match us, hl with | [_], _ => rfl
theorem ck__law_roll : okB ⟨pkK.cfg dF__law_roll, defScope (topS 24), true⟩ b__law_roll (defBody (topS 24)) = true := by decide +kernel
theorem sc__law_roll : FnScope nm__law_roll dF__law_roll.ps (defScope (topS 24)) := ⟨rfl, rfl, rfl, by decide +kernel, rfl, by decide +kernel, by decide +kernel⟩
theorem bi__law_roll (kV doc pm : Value) (an : Option Addr) (cdv ct : Value) (us : List Value) (hl : us.length = dF__law_roll.ps.length) : bindArgs (PySem.W.fnOf dF__law_roll.name dF__law_roll.name (defArgs (topS 24)) (defBody (topS 24)) (defScope (topS 24)) .none kV doc pm an cdv ct) ⟨us, []⟩ = pure (dF__law_roll.ps.zip us) := match us, hl with | [_, _], _ => rfl
theorem ck__law_rounds : okB ⟨pkK.cfg dF__law_rounds, defScope (topS 25), true⟩ b__law_rounds (defBody (topS 25)) = true := by decide +kernel
theorem sc__law_rounds : FnScope nm__law_rounds dF__law_rounds.ps (defScope (topS 25)) := ⟨rfl, rfl, rfl, by decide +kernel, rfl, by decide +kernel, by decide +kernel⟩
theorem bi__law_rounds (kV doc pm : Value) (an : Option Addr) (cdv ct : Value) (us : List Value) (hl : us.length = dF__law_rounds.ps.length) : bindArgs (PySem.W.fnOf dF__law_rounds.name dF__law_rounds.name (defArgs (topS 25)) (defBody (topS 25)) (defScope (topS 25)) .none kV doc pm an cdv ct) ⟨us, []⟩ = pure (dF__law_rounds.ps.zip us) := match us, hl with | [_, _], _ => rfl
theorem ck__law_told : okB ⟨pkK.cfg dF__law_told, defScope (topS 26), true⟩ b__law_told (defBody (topS 26)) = true := by decide +kernel
theorem sc__law_told : FnScope nm__law_told dF__law_told.ps (defScope (topS 26)) := ⟨rfl, rfl, rfl, by decide +kernel, rfl, by decide +kernel, by decide +kernel⟩
theorem bi__law_told (kV doc pm : Value) (an : Option Addr) (cdv ct : Value) (us : List Value) (hl : us.length = dF__law_told.ps.length) : bindArgs (PySem.W.fnOf dF__law_told.name dF__law_told.name (defArgs (topS 26)) (defBody (topS 26)) (defScope (topS 26)) .none kV doc pm an cdv ct) ⟨us, []⟩ = pure (dF__law_told.ps.zip us) := match us, hl with | [_], _ => rfl
theorem ck__law_line : okB ⟨pkK.cfg dF__law_line, defScope (topS 27), true⟩ b__law_line (defBody (topS 27)) = true := by decide +kernel
theorem sc__law_line : FnScope nm__law_line dF__law_line.ps (defScope (topS 27)) := ⟨rfl, rfl, rfl, by decide +kernel, rfl, by decide +kernel, by decide +kernel⟩
theorem bi__law_line (kV doc pm : Value) (an : Option Addr) (cdv ct : Value) (us : List Value) (hl : us.length = dF__law_line.ps.length) : bindArgs (PySem.W.fnOf dF__law_line.name dF__law_line.name (defArgs (topS 27)) (defBody (topS 27)) (defScope (topS 27)) .none kV doc pm an cdv ct) ⟨us, []⟩ = pure (dF__law_line.ps.zip us) := match us, hl with | [_, _], _ => rfl
theorem ck__law_kind : okB ⟨pkK.cfg dF__law_kind, defScope (topS 28), true⟩ b__law_kind (defBody (topS 28)) = true := by decide +kernel
theorem sc__law_kind : FnScope nm__law_kind dF__law_kind.ps (defScope (topS 28)) := ⟨rfl, rfl, rfl, by decide +kernel, rfl, by decide +kernel, by decide +kernel⟩
theorem bi__law_kind (kV doc pm : Value) (an : Option Addr) (cdv ct : Value) (us : List Value) (hl : us.length = dF__law_kind.ps.length) : bindArgs (PySem.W.fnOf dF__law_kind.name dF__law_kind.name (defArgs (topS 28)) (defBody (topS 28)) (defScope (topS 28)) .none kV doc pm an cdv ct) ⟨us, []⟩ = pure (dF__law_kind.ps.zip us) := match us, hl with | [_, _], _ => rfl
theorem ck__law_levels : okB ⟨pkK.cfg dF__law_levels, defScope (topS 29), true⟩ b__law_levels (defBody (topS 29)) = true := by decide +kernel
theorem sc__law_levels : FnScope nm__law_levels dF__law_levels.ps (defScope (topS 29)) := ⟨rfl, rfl, rfl, by decide +kernel, rfl, by decide +kernel, by decide +kernel⟩
theorem bi__law_levels (kV doc pm : Value) (an : Option Addr) (cdv ct : Value) (us : List Value) (hl : us.length = dF__law_levels.ps.length) : bindArgs (PySem.W.fnOf dF__law_levels.name dF__law_levels.name (defArgs (topS 29)) (defBody (topS 29)) (defScope (topS 29)) .none kV doc pm an cdv ct) ⟨us, []⟩ = pure (dF__law_levels.ps.zip us) := match us, hl with | [_, _], _ => rfl
theorem ck__law_order : okB ⟨pkK.cfg dF__law_order, defScope (topS 30), true⟩ b__law_order (defBody (topS 30)) = true := by decide +kernel
theorem sc__law_order : FnScope nm__law_order dF__law_order.ps (defScope (topS 30)) := ⟨rfl, rfl, rfl, by decide +kernel, rfl, by decide +kernel, by decide +kernel⟩
theorem bi__law_order (kV doc pm : Value) (an : Option Addr) (cdv ct : Value) (us : List Value) (hl : us.length = dF__law_order.ps.length) : bindArgs (PySem.W.fnOf dF__law_order.name dF__law_order.name (defArgs (topS 30)) (defBody (topS 30)) (defScope (topS 30)) .none kV doc pm an cdv ct) ⟨us, []⟩ = pure (dF__law_order.ps.zip us) := match us, hl with | [_], _ => rfl
theorem ck__law_seen : okB ⟨pkK.cfg dF__law_seen, defScope (topS 31), true⟩ b__law_seen (defBody (topS 31)) = true := by decide +kernel
theorem sc__law_seen : FnScope nm__law_seen dF__law_seen.ps (defScope (topS 31)) := ⟨rfl, rfl, rfl, by decide +kernel, rfl, by decide +kernel, by decide +kernel⟩
theorem bi__law_seen (kV doc pm : Value) (an : Option Addr) (cdv ct : Value) (us : List Value) (hl : us.length = dF__law_seen.ps.length) : bindArgs (PySem.W.fnOf dF__law_seen.name dF__law_seen.name (defArgs (topS 31)) (defBody (topS 31)) (defScope (topS 31)) .none kV doc pm an cdv ct) ⟨us, []⟩ = pure (dF__law_seen.ps.zip us) := match us, hl with | [_, _, _], _ => rfl
theorem ck__law_begin : okB ⟨pkK.cfg dF__law_begin, defScope (topS 32), true⟩ b__law_begin (defBody (topS 32)) = true := by decide +kernel
theorem sc__law_begin : FnScope nm__law_begin dF__law_begin.ps (defScope (topS 32)) := ⟨rfl, rfl, rfl, by decide +kernel, rfl, by decide +kernel, by decide +kernel⟩
theorem bi__law_begin (kV doc pm : Value) (an : Option Addr) (cdv ct : Value) (us : List Value) (hl : us.length = dF__law_begin.ps.length) : bindArgs (PySem.W.fnOf dF__law_begin.name dF__law_begin.name (defArgs (topS 32)) (defBody (topS 32)) (defScope (topS 32)) .none kV doc pm an cdv ct) ⟨us, []⟩ = pure (dF__law_begin.ps.zip us) := match us, hl with | [_], _ => rfl
theorem ck__law_rows : okB ⟨pkK.cfg dF__law_rows, defScope (topS 33), true⟩ b__law_rows (defBody (topS 33)) = true := by decide +kernel
theorem sc__law_rows : FnScope nm__law_rows dF__law_rows.ps (defScope (topS 33)) := ⟨rfl, rfl, rfl, by decide +kernel, rfl, by decide +kernel, by decide +kernel⟩
theorem bi__law_rows (kV doc pm : Value) (an : Option Addr) (cdv ct : Value) (us : List Value) (hl : us.length = dF__law_rows.ps.length) : bindArgs (PySem.W.fnOf dF__law_rows.name dF__law_rows.name (defArgs (topS 33)) (defBody (topS 33)) (defScope (topS 33)) .none kV doc pm an cdv ct) ⟨us, []⟩ = pure (dF__law_rows.ps.zip us) := match us, hl with | [_, _], _ => rfl
theorem ck__law_plain : okB ⟨pkK.cfg dF__law_plain, defScope (topS 34), true⟩ b__law_plain (defBody (topS 34)) = true := by decide +kernel
theorem sc__law_plain : FnScope nm__law_plain dF__law_plain.ps (defScope (topS 34)) := ⟨rfl, rfl, rfl, by decide +kernel, rfl, by decide +kernel, by decide +kernel⟩
theorem bi__law_plain (kV doc pm : Value) (an : Option Addr) (cdv ct : Value) (us : List Value) (hl : us.length = dF__law_plain.ps.length) : bindArgs (PySem.W.fnOf dF__law_plain.name dF__law_plain.name (defArgs (topS 34)) (defBody (topS 34)) (defScope (topS 34)) .none kV doc pm an cdv ct) ⟨us, []⟩ = pure (dF__law_plain.ps.zip us) := match us, hl with | [], _ => rfl
theorem ck_law : okB ⟨pkK.cfg dF_law, defScope (topS 35), true⟩ b_law (defBody (topS 35)) = true := by decide +kernel
theorem sc_law : FnScope nm_law dF_law.ps (defScope (topS 35)) := ⟨rfl, rfl, rfl, by decide +kernel, rfl, by decide +kernel, by decide +kernel⟩
theorem bi_law (kV doc pm : Value) (an : Option Addr) (cdv ct : Value) (us : List Value) (hl : us.length = dF_law.ps.length) : bindArgs (PySem.W.fnOf dF_law.name dF_law.name (defArgs (topS 35)) (defBody (topS 35)) (defScope (topS 35)) .none kV doc pm an cdv ct) ⟨us, []⟩ = pure (dF_law.ps.zip us) := match us, hl with | [_], _ => rfl
theorem fc_ {α : Type} {P : α → Prop} {a : α} {l : List α} (h : P a) (t : ∀ d ∈ l, P d) : ∀ d ∈ a :: l, P d := List.forall_mem_cons.mpr ⟨h, t⟩
theorem fn_ {α : Type} {P : α → Prop} : ∀ d ∈ ([] : List α), P d := fun _ h => nomatch h
theorem scK : ∀ d ∈ pkK.defs, FnScope d.N d.ps (defScope d.st) := fc_ (P := fun d : Df => FnScope d.N d.ps (defScope d.st)) sc_check_line (fc_ (P := fun d : Df => FnScope d.N d.ps (defScope d.st)) sc_kind_of_sign (fc_ (P := fun d : Df => FnScope d.N d.ps (defScope d.st)) sc_begin_of (fc_ (P := fun d : Df => FnScope d.N d.ps (defScope d.st)) sc_levels_of (fc_ (P := fun d : Df => FnScope d.N d.ps (defScope d.st)) sc_plain_kinds (fc_ (P := fun d : Df => FnScope d.N d.ps (defScope d.st)) sc_with_between (fc_ (P := fun d : Df => FnScope d.N d.ps (defScope d.st)) sc_seen_order (fc_ (P := fun d : Df => FnScope d.N d.ps (defScope d.st)) sc_line_seen (fc_ (P := fun d : Df => FnScope d.N d.ps (defScope d.st)) sc_place_seen (fc_ (P := fun d : Df => FnScope d.N d.ps (defScope d.st)) sc_runs_seen (fc_ (P := fun d : Df => FnScope d.N d.ps (defScope d.st)) sc_marked_within (fc_ (P := fun d : Df => FnScope d.N d.ps (defScope d.st)) sc_is_mixed (fc_ (P := fun d : Df => FnScope d.N d.ps (defScope d.st)) sc_kept_apart (fc_ (P := fun d : Df => FnScope d.N d.ps (defScope d.st)) sc_lines_seen (fc_ (P := fun d : Df => FnScope d.N d.ps (defScope d.st)) sc__law_dice (fc_ (P := fun d : Df => FnScope d.N d.ps (defScope d.st)) sc__law_roll (fc_ (P := fun d : Df => FnScope d.N d.ps (defScope d.st)) sc__law_rounds (fc_ (P := fun d : Df => FnScope d.N d.ps (defScope d.st)) sc__law_told (fc_ (P := fun d : Df => FnScope d.N d.ps (defScope d.st)) sc__law_line (fc_ (P := fun d : Df => FnScope d.N d.ps (defScope d.st)) sc__law_kind (fc_ (P := fun d : Df => FnScope d.N d.ps (defScope d.st)) sc__law_levels (fc_ (P := fun d : Df => FnScope d.N d.ps (defScope d.st)) sc__law_order (fc_ (P := fun d : Df => FnScope d.N d.ps (defScope d.st)) sc__law_seen (fc_ (P := fun d : Df => FnScope d.N d.ps (defScope d.st)) sc__law_begin (fc_ (P := fun d : Df => FnScope d.N d.ps (defScope d.st)) sc__law_rows (fc_ (P := fun d : Df => FnScope d.N d.ps (defScope d.st)) sc__law_plain (fc_ (P := fun d : Df => FnScope d.N d.ps (defScope d.st)) sc_law (fn_)))))))))))))))))))))))))))
theorem ckK : ∀ d ∈ pkK.defs, okB ⟨pkK.cfg d, defScope d.st, true⟩ d.b (defBody d.st) = true := fc_ (P := fun d : Df => okB ⟨pkK.cfg d, defScope d.st, true⟩ d.b (defBody d.st) = true) ck_check_line (fc_ (P := fun d : Df => okB ⟨pkK.cfg d, defScope d.st, true⟩ d.b (defBody d.st) = true) ck_kind_of_sign (fc_ (P := fun d : Df => okB ⟨pkK.cfg d, defScope d.st, true⟩ d.b (defBody d.st) = true) ck_begin_of (fc_ (P := fun d : Df => okB ⟨pkK.cfg d, defScope d.st, true⟩ d.b (defBody d.st) = true) ck_levels_of (fc_ (P := fun d : Df => okB ⟨pkK.cfg d, defScope d.st, true⟩ d.b (defBody d.st) = true) ck_plain_kinds (fc_ (P := fun d : Df => okB ⟨pkK.cfg d, defScope d.st, true⟩ d.b (defBody d.st) = true) ck_with_between (fc_ (P := fun d : Df => okB ⟨pkK.cfg d, defScope d.st, true⟩ d.b (defBody d.st) = true) ck_seen_order (fc_ (P := fun d : Df => okB ⟨pkK.cfg d, defScope d.st, true⟩ d.b (defBody d.st) = true) ck_line_seen (fc_ (P := fun d : Df => okB ⟨pkK.cfg d, defScope d.st, true⟩ d.b (defBody d.st) = true) ck_place_seen (fc_ (P := fun d : Df => okB ⟨pkK.cfg d, defScope d.st, true⟩ d.b (defBody d.st) = true) ck_runs_seen (fc_ (P := fun d : Df => okB ⟨pkK.cfg d, defScope d.st, true⟩ d.b (defBody d.st) = true) ck_marked_within (fc_ (P := fun d : Df => okB ⟨pkK.cfg d, defScope d.st, true⟩ d.b (defBody d.st) = true) ck_is_mixed (fc_ (P := fun d : Df => okB ⟨pkK.cfg d, defScope d.st, true⟩ d.b (defBody d.st) = true) ck_kept_apart (fc_ (P := fun d : Df => okB ⟨pkK.cfg d, defScope d.st, true⟩ d.b (defBody d.st) = true) ck_lines_seen (fc_ (P := fun d : Df => okB ⟨pkK.cfg d, defScope d.st, true⟩ d.b (defBody d.st) = true) ck__law_dice (fc_ (P := fun d : Df => okB ⟨pkK.cfg d, defScope d.st, true⟩ d.b (defBody d.st) = true) ck__law_roll (fc_ (P := fun d : Df => okB ⟨pkK.cfg d, defScope d.st, true⟩ d.b (defBody d.st) = true) ck__law_rounds (fc_ (P := fun d : Df => okB ⟨pkK.cfg d, defScope d.st, true⟩ d.b (defBody d.st) = true) ck__law_told (fc_ (P := fun d : Df => okB ⟨pkK.cfg d, defScope d.st, true⟩ d.b (defBody d.st) = true) ck__law_line (fc_ (P := fun d : Df => okB ⟨pkK.cfg d, defScope d.st, true⟩ d.b (defBody d.st) = true) ck__law_kind (fc_ (P := fun d : Df => okB ⟨pkK.cfg d, defScope d.st, true⟩ d.b (defBody d.st) = true) ck__law_levels (fc_ (P := fun d : Df => okB ⟨pkK.cfg d, defScope d.st, true⟩ d.b (defBody d.st) = true) ck__law_order (fc_ (P := fun d : Df => okB ⟨pkK.cfg d, defScope d.st, true⟩ d.b (defBody d.st) = true) ck__law_seen (fc_ (P := fun d : Df => okB ⟨pkK.cfg d, defScope d.st, true⟩ d.b (defBody d.st) = true) ck__law_begin (fc_ (P := fun d : Df => okB ⟨pkK.cfg d, defScope d.st, true⟩ d.b (defBody d.st) = true) ck__law_rows (fc_ (P := fun d : Df => okB ⟨pkK.cfg d, defScope d.st, true⟩ d.b (defBody d.st) = true) ck__law_plain (fc_ (P := fun d : Df => okB ⟨pkK.cfg d, defScope d.st, true⟩ d.b (defBody d.st) = true) ck_law (fn_)))))))))))))))))))))))))))
theorem biK : ∀ d ∈ pkK.defs, ∀ (kV doc pm : Value) (an : Option Addr) (cdv ct : Value) (us : List Value), us.length = d.ps.length → bindArgs (PySem.W.fnOf d.name d.name (defArgs d.st) (defBody d.st) (defScope d.st) .none kV doc pm an cdv ct) ⟨us, []⟩ = pure (d.ps.zip us) := fc_ (P := fun d : Df => ∀ (kV doc pm : Value) (an : Option Addr) (cdv ct : Value) (us : List Value), us.length = d.ps.length → bindArgs (PySem.W.fnOf d.name d.name (defArgs d.st) (defBody d.st) (defScope d.st) .none kV doc pm an cdv ct) ⟨us, []⟩ = pure (d.ps.zip us)) bi_check_line (fc_ (P := fun d : Df => ∀ (kV doc pm : Value) (an : Option Addr) (cdv ct : Value) (us : List Value), us.length = d.ps.length → bindArgs (PySem.W.fnOf d.name d.name (defArgs d.st) (defBody d.st) (defScope d.st) .none kV doc pm an cdv ct) ⟨us, []⟩ = pure (d.ps.zip us)) bi_kind_of_sign (fc_ (P := fun d : Df => ∀ (kV doc pm : Value) (an : Option Addr) (cdv ct : Value) (us : List Value), us.length = d.ps.length → bindArgs (PySem.W.fnOf d.name d.name (defArgs d.st) (defBody d.st) (defScope d.st) .none kV doc pm an cdv ct) ⟨us, []⟩ = pure (d.ps.zip us)) bi_begin_of (fc_ (P := fun d : Df => ∀ (kV doc pm : Value) (an : Option Addr) (cdv ct : Value) (us : List Value), us.length = d.ps.length → bindArgs (PySem.W.fnOf d.name d.name (defArgs d.st) (defBody d.st) (defScope d.st) .none kV doc pm an cdv ct) ⟨us, []⟩ = pure (d.ps.zip us)) bi_levels_of (fc_ (P := fun d : Df => ∀ (kV doc pm : Value) (an : Option Addr) (cdv ct : Value) (us : List Value), us.length = d.ps.length → bindArgs (PySem.W.fnOf d.name d.name (defArgs d.st) (defBody d.st) (defScope d.st) .none kV doc pm an cdv ct) ⟨us, []⟩ = pure (d.ps.zip us)) bi_plain_kinds (fc_ (P := fun d : Df => ∀ (kV doc pm : Value) (an : Option Addr) (cdv ct : Value) (us : List Value), us.length = d.ps.length → bindArgs (PySem.W.fnOf d.name d.name (defArgs d.st) (defBody d.st) (defScope d.st) .none kV doc pm an cdv ct) ⟨us, []⟩ = pure (d.ps.zip us)) bi_with_between (fc_ (P := fun d : Df => ∀ (kV doc pm : Value) (an : Option Addr) (cdv ct : Value) (us : List Value), us.length = d.ps.length → bindArgs (PySem.W.fnOf d.name d.name (defArgs d.st) (defBody d.st) (defScope d.st) .none kV doc pm an cdv ct) ⟨us, []⟩ = pure (d.ps.zip us)) bi_seen_order (fc_ (P := fun d : Df => ∀ (kV doc pm : Value) (an : Option Addr) (cdv ct : Value) (us : List Value), us.length = d.ps.length → bindArgs (PySem.W.fnOf d.name d.name (defArgs d.st) (defBody d.st) (defScope d.st) .none kV doc pm an cdv ct) ⟨us, []⟩ = pure (d.ps.zip us)) bi_line_seen (fc_ (P := fun d : Df => ∀ (kV doc pm : Value) (an : Option Addr) (cdv ct : Value) (us : List Value), us.length = d.ps.length → bindArgs (PySem.W.fnOf d.name d.name (defArgs d.st) (defBody d.st) (defScope d.st) .none kV doc pm an cdv ct) ⟨us, []⟩ = pure (d.ps.zip us)) bi_place_seen (fc_ (P := fun d : Df => ∀ (kV doc pm : Value) (an : Option Addr) (cdv ct : Value) (us : List Value), us.length = d.ps.length → bindArgs (PySem.W.fnOf d.name d.name (defArgs d.st) (defBody d.st) (defScope d.st) .none kV doc pm an cdv ct) ⟨us, []⟩ = pure (d.ps.zip us)) bi_runs_seen (fc_ (P := fun d : Df => ∀ (kV doc pm : Value) (an : Option Addr) (cdv ct : Value) (us : List Value), us.length = d.ps.length → bindArgs (PySem.W.fnOf d.name d.name (defArgs d.st) (defBody d.st) (defScope d.st) .none kV doc pm an cdv ct) ⟨us, []⟩ = pure (d.ps.zip us)) bi_marked_within (fc_ (P := fun d : Df => ∀ (kV doc pm : Value) (an : Option Addr) (cdv ct : Value) (us : List Value), us.length = d.ps.length → bindArgs (PySem.W.fnOf d.name d.name (defArgs d.st) (defBody d.st) (defScope d.st) .none kV doc pm an cdv ct) ⟨us, []⟩ = pure (d.ps.zip us)) bi_is_mixed (fc_ (P := fun d : Df => ∀ (kV doc pm : Value) (an : Option Addr) (cdv ct : Value) (us : List Value), us.length = d.ps.length → bindArgs (PySem.W.fnOf d.name d.name (defArgs d.st) (defBody d.st) (defScope d.st) .none kV doc pm an cdv ct) ⟨us, []⟩ = pure (d.ps.zip us)) bi_kept_apart (fc_ (P := fun d : Df => ∀ (kV doc pm : Value) (an : Option Addr) (cdv ct : Value) (us : List Value), us.length = d.ps.length → bindArgs (PySem.W.fnOf d.name d.name (defArgs d.st) (defBody d.st) (defScope d.st) .none kV doc pm an cdv ct) ⟨us, []⟩ = pure (d.ps.zip us)) bi_lines_seen (fc_ (P := fun d : Df => ∀ (kV doc pm : Value) (an : Option Addr) (cdv ct : Value) (us : List Value), us.length = d.ps.length → bindArgs (PySem.W.fnOf d.name d.name (defArgs d.st) (defBody d.st) (defScope d.st) .none kV doc pm an cdv ct) ⟨us, []⟩ = pure (d.ps.zip us)) bi__law_dice (fc_ (P := fun d : Df => ∀ (kV doc pm : Value) (an : Option Addr) (cdv ct : Value) (us : List Value), us.length = d.ps.length → bindArgs (PySem.W.fnOf d.name d.name (defArgs d.st) (defBody d.st) (defScope d.st) .none kV doc pm an cdv ct) ⟨us, []⟩ = pure (d.ps.zip us)) bi__law_roll (fc_ (P := fun d : Df => ∀ (kV doc pm : Value) (an : Option Addr) (cdv ct : Value) (us : List Value), us.length = d.ps.length → bindArgs (PySem.W.fnOf d.name d.name (defArgs d.st) (defBody d.st) (defScope d.st) .none kV doc pm an cdv ct) ⟨us, []⟩ = pure (d.ps.zip us)) bi__law_rounds (fc_ (P := fun d : Df => ∀ (kV doc pm : Value) (an : Option Addr) (cdv ct : Value) (us : List Value), us.length = d.ps.length → bindArgs (PySem.W.fnOf d.name d.name (defArgs d.st) (defBody d.st) (defScope d.st) .none kV doc pm an cdv ct) ⟨us, []⟩ = pure (d.ps.zip us)) bi__law_told (fc_ (P := fun d : Df => ∀ (kV doc pm : Value) (an : Option Addr) (cdv ct : Value) (us : List Value), us.length = d.ps.length → bindArgs (PySem.W.fnOf d.name d.name (defArgs d.st) (defBody d.st) (defScope d.st) .none kV doc pm an cdv ct) ⟨us, []⟩ = pure (d.ps.zip us)) bi__law_line (fc_ (P := fun d : Df => ∀ (kV doc pm : Value) (an : Option Addr) (cdv ct : Value) (us : List Value), us.length = d.ps.length → bindArgs (PySem.W.fnOf d.name d.name (defArgs d.st) (defBody d.st) (defScope d.st) .none kV doc pm an cdv ct) ⟨us, []⟩ = pure (d.ps.zip us)) bi__law_kind (fc_ (P := fun d : Df => ∀ (kV doc pm : Value) (an : Option Addr) (cdv ct : Value) (us : List Value), us.length = d.ps.length → bindArgs (PySem.W.fnOf d.name d.name (defArgs d.st) (defBody d.st) (defScope d.st) .none kV doc pm an cdv ct) ⟨us, []⟩ = pure (d.ps.zip us)) bi__law_levels (fc_ (P := fun d : Df => ∀ (kV doc pm : Value) (an : Option Addr) (cdv ct : Value) (us : List Value), us.length = d.ps.length → bindArgs (PySem.W.fnOf d.name d.name (defArgs d.st) (defBody d.st) (defScope d.st) .none kV doc pm an cdv ct) ⟨us, []⟩ = pure (d.ps.zip us)) bi__law_order (fc_ (P := fun d : Df => ∀ (kV doc pm : Value) (an : Option Addr) (cdv ct : Value) (us : List Value), us.length = d.ps.length → bindArgs (PySem.W.fnOf d.name d.name (defArgs d.st) (defBody d.st) (defScope d.st) .none kV doc pm an cdv ct) ⟨us, []⟩ = pure (d.ps.zip us)) bi__law_seen (fc_ (P := fun d : Df => ∀ (kV doc pm : Value) (an : Option Addr) (cdv ct : Value) (us : List Value), us.length = d.ps.length → bindArgs (PySem.W.fnOf d.name d.name (defArgs d.st) (defBody d.st) (defScope d.st) .none kV doc pm an cdv ct) ⟨us, []⟩ = pure (d.ps.zip us)) bi__law_begin (fc_ (P := fun d : Df => ∀ (kV doc pm : Value) (an : Option Addr) (cdv ct : Value) (us : List Value), us.length = d.ps.length → bindArgs (PySem.W.fnOf d.name d.name (defArgs d.st) (defBody d.st) (defScope d.st) .none kV doc pm an cdv ct) ⟨us, []⟩ = pure (d.ps.zip us)) bi__law_rows (fc_ (P := fun d : Df => ∀ (kV doc pm : Value) (an : Option Addr) (cdv ct : Value) (us : List Value), us.length = d.ps.length → bindArgs (PySem.W.fnOf d.name d.name (defArgs d.st) (defBody d.st) (defScope d.st) .none kV doc pm an cdv ct) ⟨us, []⟩ = pure (d.ps.zip us)) bi__law_plain (fc_ (P := fun d : Df => ∀ (kV doc pm : Value) (an : Option Addr) (cdv ct : Value) (us : List Value), us.length = d.ps.length → bindArgs (PySem.W.fnOf d.name d.name (defArgs d.st) (defBody d.st) (defScope d.st) .none kV doc pm an cdv ct) ⟨us, []⟩ = pure (d.ps.zip us)) bi_law (fn_)))))))))))))))))))))))))))
theorem pkG : PkG pkK := ⟨rfl, rfl, scK, ckK, biK, by decide +kernel, by decide +kernel⟩
end Mi
set_option Elab.async false
set_option linter.all false
set_option maxRecDepth 100000
set_option maxHeartbeats 4000000
/-! Pa: how a run in the own language is told: what holds of its answer. Plain Lean. -/
namespace Mi
/-- the run ends with an answer, of which P holds -/
def Ev {α : Type} (r : R α) (P : α → Mu → Prop) : Prop := match r with
  | .ok a μ => P a μ
  | _ => False
section
variable {α β : Type} {r : R α} {a : α} {μ : Mu} {P Q : α → Mu → Prop} {f : α → Mu → R β} {PB : β → Mu → Prop}
theorem ev_ok : Ev (.ok a μ) P = P a μ := rfl
theorem ev_iff {μ' : Mu} : Ev r (fun b ν => b = a ∧ ν = μ') ↔ r = .ok a μ' := by
  cases r with
  | ok b ν => exact ⟨fun ⟨h1, h2⟩ => by rw [h1, h2], fun h => by cases h; exact ⟨rfl, rfl⟩⟩
  | exc c ν => exact ⟨fun h => h.elim, fun h => by cases h⟩
  | no => exact ⟨fun h => h.elim, fun h => by cases h⟩
theorem ev_bnd : Ev (r.bnd f) PB = Ev r fun a μ => Ev (f a μ) PB := by cases r <;> rfl
theorem Ev.mono (h : Ev r P) (hq : ∀ a μ, P a μ → Q a μ) : Ev r Q := by
  cases r with
  | ok b ν => exact hq _ _ h
  | exc c ν => exact h
  | no => exact h
theorem Ev.ex (h : Ev r P) : ∃ a μ, r = .ok a μ ∧ P a μ := by
  cases r with
  | ok b ν => exact ⟨b, ν, rfl, h⟩
  | exc c ν => exact h.elim
  | no => exact h.elim
theorem bnd_ok : (R.ok a μ).bnd f = f a μ := rfl
theorem calm_ok : (R.ok a μ).calm = .ok a μ := rfl
theorem ev_calm : Ev r.calm P = Ev r P := by cases r <;> rfl
theorem opt_some : opt (some a) μ = .ok a μ := rfl
theorem ev_opt {o : Option α} : Ev (opt o μ) P ↔ ∃ a, o = some a ∧ P a μ := by
  cases o with
  | none => exact ⟨fun h => h.elim, fun ⟨_, h, _⟩ => by cases h⟩
  | some b => exact ⟨fun h => ⟨b, rfl, h⟩, fun ⟨_, h, q⟩ => by cases h; exact q⟩
/-- a turn of a sequence of statements -/
def nxt (g : Sl → Mu → R Fl) (fl : Fl) (μ : Mu) : R Fl := match fl with
  | .nx σ => g σ μ
  | fl => .ok fl μ
theorem nxt_nx {g : Sl → Mu → R Fl} {σ : Sl} : nxt g (.nx σ) μ = g σ μ := rfl
theorem nxt_ret {g : Sl → Mu → R Fl} {d : D} : nxt g (.ret d) μ = .ok (.ret d) μ := rfl
theorem nxt_brk {g : Sl → Mu → R Fl} {σ : Sl} : nxt g (.brk σ) μ = .ok (.brk σ) μ := rfl
theorem nxt_ct {g : Sl → Mu → R Fl} {σ : Sl} : nxt g (.ct σ) μ = .ok (.ct σ) μ := rfl
theorem seqF_eq {r : R Fl} {g : Sl → Mu → R Fl} : seqF r g = r.bnd (nxt g) := by
  cases r with
  | ok fl μ => cases fl <;> rfl
  | exc c μ => rfl
  | no => rfl
theorem rns_cons {Φ : Env} {s : S} {t : Ss} {σ : Sl} : rns Φ (.cons s t) σ μ = (rn Φ s σ μ).bnd (nxt (rns Φ t)) := by
  rw [← seqF_eq, rns]
theorem rns_nil {Φ : Env} {σ : Sl} : rns Φ .nil σ μ = .ok (.nx σ) μ := by rw [rns]
end
theorem sL_nil : sL [] = .nil := rfl
theorem sL_cons {s : S} {l : List S} : sL (s :: l) = .cons s (sL l) := rfl
theorem eL_nil : eL [] = .nil := rfl
theorem eL_cons {s : E} {l : List E} : eL (s :: l) = .cons s (eL l) := rfl

/-! ### walks -/
section
variable {ws : Wt} {b : D → Sl → Mu → R Fl} {xs : List D} {σ : Sl} {μ : Mu} {P : Fl → Mu → Prop}
/-- a for that walks to its end; k: how many items are behind -/
theorem for_inv (I : Nat → Sl → Mu → Prop) (h0 : I 0 σ μ) (hw : ∀ k σ μ, I k σ μ → wOk ws μ = true)
    (hs : ∀ k x σ μ, xs[k]? = some x → I k σ μ → Ev (b x σ μ) fun fl μ' => ∃ σ', (fl = .nx σ' ∨ fl = .ct σ') ∧ I (k + 1) σ' μ') (hP : ∀ σ' μ', I xs.length σ' μ' → P (.nx σ') μ') : Ev (forF ws b xs σ μ) P := by
  induction xs generalizing I σ μ with
  | nil =>
    unfold forF
    rw [if_pos (hw 0 σ μ h0)]
    exact hP _ _ h0
  | cons x xs ih =>
    unfold forF
    rw [if_pos (hw 0 σ μ h0), ev_bnd]
    refine (hs 0 x σ μ rfl h0).mono fun fl μ' h => ?_
    obtain ⟨σ', h | h, hi⟩ := h
    all_goals (
      subst h
      exact ih (fun k => I (k + 1)) hi (fun k => hw (k + 1)) (fun k y σ μ hk => hs (k + 1) y σ μ (by simpa using hk)) (fun σ' μ' h => hP σ' μ' (by simpa using h)))
/-- a for that may end by return -/
theorem for_ret (I : Nat → Sl → Mu → Prop) (h0 : I 0 σ μ) (hw : ∀ k σ μ, I k σ μ → wOk ws μ = true)
    (hs : ∀ k x σ μ, xs[k]? = some x → I k σ μ → Ev (b x σ μ) fun fl μ' => (∃ σ', (fl = .nx σ' ∨ fl = .ct σ') ∧ I (k + 1) σ' μ') ∨ ∃ d, fl = .ret d ∧ P (.ret d) μ') (hP : ∀ σ' μ', I xs.length σ' μ' → P (.nx σ') μ') : Ev (forF ws b xs σ μ) P := by
  induction xs generalizing I σ μ with
  | nil =>
    unfold forF
    rw [if_pos (hw 0 σ μ h0)]
    exact hP _ _ h0
  | cons x xs ih =>
    unfold forF
    rw [if_pos (hw 0 σ μ h0), ev_bnd]
    refine (hs 0 x σ μ rfl h0).mono fun fl μ' h => ?_
    rcases h with ⟨σ', h | h, hi⟩ | ⟨d, rfl, hd⟩
    · subst h
      exact ih (fun k => I (k + 1)) hi (fun k => hw (k + 1)) (fun k y σ μ hk => hs (k + 1) y σ μ (by simpa using hk)) (fun σ' μ' h => hP σ' μ' (by simpa using h))
    · subst h
      exact ih (fun k => I (k + 1)) hi (fun k => hw (k + 1)) (fun k y σ μ hk => hs (k + 1) y σ μ (by simpa using hk)) (fun σ' μ' h => hP σ' μ' (by simpa using h))
    · exact hd
theorem whl_inv {c : Sl → Mu → R Bool} {b : Sl → Mu → R Fl} (I : Nat → Sl → Mu → Prop) (hs : ∀ k σ μ, I k σ μ → Ev (c σ μ) fun t μ' => (t = true → Ev (b σ μ') fun fl μ2 => ∃ σ' j, (fl = .nx σ' ∨ fl = .ct σ') ∧ j < k ∧ I j σ' μ2) ∧ (t = false → P (.nx σ) μ')) :
    ∀ (n k : Nat) (σ : Sl) (μ : Mu), k < n → I k σ μ → Ev (whlF c b n σ μ) P
  | 0, k, σ, μ, h, _ => absurd h (Nat.not_lt_zero k)
  | n + 1, k, σ, μ, h, hi => by
    unfold whlF
    rw [ev_bnd]
    refine (hs k σ μ hi).mono fun t μ' ht => ?_
    cases t with
    | false =>
      rw [if_neg (by simp)]
      exact ht.2 rfl
    | true =>
      rw [if_pos rfl, ev_bnd]
      refine (ht.1 rfl).mono fun fl μ2 hf => ?_
      obtain ⟨σ', j, hc | hc, hj, hi'⟩ := hf
      · subst hc
        exact whl_inv I hs n j σ' μ2 (by omega) hi'
      · subst hc
        exact whl_inv I hs n j σ' μ2 (by omega) hi'
theorem mapR_eq {f : D → Mu → R (Option D)} {g : D → Option D} (hw : wOk ws μ = true) (h : ∀ x ∈ xs, f x μ = .ok (g x) μ) : mapR ws f xs μ = .ok (xs.filterMap g) μ := by
  induction xs with
  | nil => unfold mapR; rw [if_pos hw] <;> rfl
  | cons x xs ih =>
    unfold mapR
    rw [if_pos hw, h x List.mem_cons_self, bnd_ok, ih fun y hy => h y (List.mem_cons_of_mem _ hy), bnd_ok]
    cases hg : g x with
    | none => rw [List.filterMap_cons_none hg]
    | some y => rw [List.filterMap_cons_some hg]
theorem mapR_all {f : D → Mu → R (Option D)} {g : D → D} (hw : wOk ws μ = true) (h : ∀ x ∈ xs, f x μ = .ok (some (g x)) μ) : mapR ws f xs μ = .ok (xs.map g) μ := by
  rw [mapR_eq (g := fun x => some (g x)) hw h]
  rw [List.filterMap_eq_map'] <;> rfl
theorem wOk_nil : wOk [] μ = true := rfl
end
/-! ### data -/
mutual
theorem same_self : ∀ d : D, same d d = true
  | .non => rfl
  | .bl b => by simp [same]
  | .int i => by simp [same]
  | .str s => by simp [same]
  | .tup k xs => by simp [same, sames_self xs]
  | .lst xs => by simp [same, sames_self xs]
  | .scr xs => by simp [same]
  | .dic ks vs => by simp [same, sames_self ks, sames_self vs]
  | .ref i => by simp [same]
  | .clo k => by simp [same]
  | .ins c ns vs => by simp [same, sames_self vs]
theorem sames_self : ∀ ds : List D, sames ds ds = true
  | [] => rfl
  | d :: ds => by simp [sames, same_self d, sames_self ds]
end
mutual
theorem eqv_self : ∀ (d : D) (n : Nat), plain n d = true → eqv d d = true
  | .non, _, _ => by simp [eqv]
  | .bl b, _, _ => by simp [eqv]
  | .int i, _, _ => by simp [eqv]
  | .str s, _, _ => by simp [eqv]
  | .tup k xs, 0, h => by simp [plain] at h
  | .tup k xs, n + 1, h => by simp only [eqv]; exact eqvs_self xs n (by simpa [plain] using h)
  | .lst xs, 0, h => by simp [plain] at h
  | .lst xs, n + 1, h => by simp only [eqv]; exact eqvs_self xs n (by simpa [plain] using h)
  | .scr xs, n, h => by simp [plain] at h
  | .dic ks vs, n, h => by simp [plain] at h
  | .ref i, n, h => by simp [plain] at h
  | .clo k, n, h => by simp [plain] at h
  | .ins c ns vs, n, h => by simp [plain] at h
theorem eqvs_self : ∀ (ds : List D) (n : Nat), plains n ds = true → eqvs ds ds = true
  | [], _, _ => by simp [eqvs]
  | d :: ds, n, h => by
    simp only [plains, Bool.and_eq_true] at h
    simp only [eqvs, Bool.and_eq_true]
    exact ⟨eqv_self d n h.1, eqvs_self ds n h.2⟩
end
theorem view_plain {μ : Mu} {d : D} {n : Nat} (h : plain n d = true) : view μ d = d := by
  cases d <;> first | rfl | (simp [plain] at h)
theorem ne_self {μ : Mu} {d : D} (h : plain 20 d = true) : cmpM .ne μ d d = some false := by
  simp [cmpM, view_plain h, h, eqv_self d 20 h]
theorem eq_self_ {μ : Mu} {d : D} (h : plain 20 d = true) : cmpM .eq μ d d = some true := by
  simp [cmpM, view_plain h, h, eqv_self d 20 h]
theorem eqvs_int : ∀ xs ys : List Int, eqvs (xs.map .int) (ys.map .int) = decide (xs = ys)
  | [], [] => by simp [eqvs]
  | [], y :: ys => by simp [eqvs]
  | x :: xs, [] => by simp [eqvs]
  | x :: xs, y :: ys => by
    simp only [List.map_cons, eqvs, eqvs_int xs ys, eqv]
    by_cases h : x = y <;> by_cases h2 : xs = ys <;> simp [h, h2]
theorem plains_int : ∀ (xs : List Int) (n : Nat), plains n (xs.map .int) = true
  | [], _ => by simp [plains]
  | x :: xs, n => by
    simp only [List.map_cons, plains, Bool.and_eq_true]
    exact ⟨by cases n <;> simp [plain], plains_int xs n⟩
theorem toInts_map : ∀ xs : List Int, toInts (xs.map .int) = some xs
  | [] => rfl
  | x :: xs => by simp [toInts, toInts_map xs]
theorem toStrs_map : ∀ xs : List T, toStrs (xs.map .str) = some xs
  | [] => rfl
  | x :: xs => by simp [toStrs, toStrs_map xs]
/-! ### no cells -/
mutual
/-- no cell at all -/
def dry : D → Bool
  | .ref _ => false
  | .tup _ xs | .lst xs => drys xs
  | .dic ks vs => drys ks && drys vs
  | .ins _ _ vs => drys vs
  | _ => true
def drys : List D → Bool
  | [] => true
  | x :: xs => dry x && drys xs
end
mutual
theorem dry_low (n : Nat) : ∀ d : D, dry d = true → low n d = true
  | .non, _ => rfl
  | .bl b, _ => rfl
  | .int i, _ => rfl
  | .str s, _ => rfl
  | .tup k xs, h => by simp only [low]; exact drys_lows n xs (by simpa [dry] using h)
  | .lst xs, h => by simp only [low]; exact drys_lows n xs (by simpa [dry] using h)
  | .scr xs, _ => rfl
  | .dic ks vs, h => by
    simp only [dry, Bool.and_eq_true] at h
    simp only [low, Bool.and_eq_true]
    exact ⟨drys_lows n ks h.1, drys_lows n vs h.2⟩
  | .ref i, h => by simp [dry] at h
  | .clo k, _ => rfl
  | .ins c ns vs, h => by simp only [low]; exact drys_lows n vs (by simpa [dry] using h)
theorem drys_lows (n : Nat) : ∀ ds : List D, drys ds = true → lows n ds = true
  | [], _ => rfl
  | d :: ds, h => by
    simp only [drys, Bool.and_eq_true] at h
    simp only [lows, Bool.and_eq_true]
    exact ⟨dry_low n d h.1, drys_lows n ds h.2⟩
end
theorem drys_map {α : Type} {f : α → D} (h : ∀ x, dry (f x) = true) : ∀ l : List α, drys (l.map f) = true
  | [] => rfl
  | x :: l => by simp only [List.map_cons, drys, h x, drys_map h l, Bool.and_self]
/-- a call's end: the answer is a tree -/
theorem done_dry {μ ν : Mu} {d : D} (hμ : drys μ = true) (hd : dry d = true) : done μ.length d (μ ++ ν) = .ok d μ := by
  unfold done
  rw [List.take_left', if_pos (drys_lows _ _ hμ)]
  · have := dry_low μ.length d hd
    cases d <;> first | (simp only [this, if_true]; done) | (simp [dry] at hd)
  · rfl
theorem done_dry0 {μ : Mu} {d : D} (hμ : drys μ = true) (hd : dry d = true) : done μ.length d μ = .ok d μ := by
  have := done_dry (ν := []) hμ hd
  rwa [List.append_nil] at this
/-- .. a list of its own -/
theorem done_lst {μ ν : Mu} {xs : List D} {i : Nat} (hμ : drys μ = true) (hi : i = μ.length) (hx : drys xs = true) : done μ.length (.ref i) (μ ++ .lst xs :: ν) = .ok (.lst xs) μ := by
  subst hi
  unfold done
  rw [List.take_left', if_pos (drys_lows _ _ hμ)]
  · simp only
    rw [if_neg (Nat.lt_irrefl _), List.getElem?_append_right (Nat.le_refl _)]
    simp only [Nat.sub_self, List.getElem?_cons_zero, drys_lows μ.length xs hx, if_true]
  · rfl
theorem drys_app : ∀ {a b : List D}, drys (a ++ b) = (drys a && drys b)
  | [], b => by simp [drys]
  | x :: a, b => by simp [drys, drys_app, Bool.and_assoc]
end Mi
set_option Elab.async false
set_option linter.all false
set_option maxRecDepth 100000
set_option maxHeartbeats 4000000
/-! Pb: steps of a run. -/
namespace Mi
theorem fun_ret {Φ : Env} {N : Nat} {b : Ss} {as : List D} {μ : Mu} {out : D} (σ0 : Sl) (hσ : as.map some ++ List.replicate (N - as.length) none = σ0) (h : Ev (rns Φ b σ0 μ) fun fl μ' => ∃ d, (fl = .ret d ∨ (∃ σ, fl = .nx σ) ∧ d = .non) ∧ done μ.length d μ' = .ok out μ) : fun_ Φ N false b as μ = .ok out μ := by
  unfold fun_
  rw [hσ]
  obtain ⟨fl, μ', e, d, h1, h2⟩ := h.ex
  rw [e]
  rcases h1 with rfl | ⟨⟨σ, rfl⟩, rfl⟩
  · exact h2
  · exact h2
theorem ite_tt {α : Sort _} {a b : α} : (if true = true then a else b) = a := if_pos rfl
theorem ite_ff {α : Sort _} {a b : α} : (if false = true then a else b) = b := if_neg (by simp)
theorem if_b {α : Sort _} {c : Bool} {a b : α} (h : c = true) : (if c = true then a else b) = a := if_pos h
theorem if_nb {α : Sort _} {c : Bool} {a b : α} (h : c = false) : (if c = true then a else b) = b := by rw [h]; exact ite_ff
theorem in_str {μ : Mu} {c : Nat} {z : T} : cmpM .isin μ (.str [c]) (.str z) = some (z.contains c) := rfl
theorem lt_int {μ : Mu} {i j : Int} : cmpM .lt μ (.int i) (.int j) = some (decide (i < j)) := rfl
theorem le_int {μ : Mu} {i j : Int} : cmpM .le μ (.int i) (.int j) = some (decide (i ≤ j)) := rfl
theorem gt_int {μ : Mu} {i j : Int} : cmpM .gt μ (.int i) (.int j) = some (decide (j < i)) := rfl
theorem ge_int {μ : Mu} {i j : Int} : cmpM .ge μ (.int i) (.int j) = some (decide (j ≤ i)) := rfl
theorem eq_int {μ : Mu} {i j : Int} : cmpM .eq μ (.int i) (.int j) = some (i == j) := by simp [cmpM, view, plain, eqv]
theorem ne_int {μ : Mu} {i j : Int} : cmpM .ne μ (.int i) (.int j) = some (!(i == j)) := by simp [cmpM, view, plain, eqv]
theorem eq_bl {μ : Mu} {i j : Bool} : cmpM .eq μ (.bl i) (.bl j) = some (i == j) := by simp [cmpM, view, plain, eqv]
theorem ne_bl {μ : Mu} {i j : Bool} : cmpM .ne μ (.bl i) (.bl j) = some (!(i == j)) := by simp [cmpM, view, plain, eqv]
abbrev cOk (s : T) : Prop := (s.all (· < 1114112)) = true
theorem eq_str {μ : Mu} {s t : T} (hs : cOk s) (ht : cOk t) : cmpM .eq μ (.str s) (.str t) = some (s == t) := by
  have h1 : plain 20 (.str s) = true := hs
  have h2 : plain 20 (.str t) = true := ht
  unfold cmpM
  simp only [view, h1, h2, Bool.and_self, if_true, eqv]
theorem ne_str {μ : Mu} {s t : T} (hs : cOk s) (ht : cOk t) : cmpM .ne μ (.str s) (.str t) = some (!(s == t)) := by
  have h1 : plain 20 (.str s) = true := hs
  have h2 : plain 20 (.str t) = true := ht
  unfold cmpM
  simp only [view, h1, h2, Bool.and_self, if_true, eqv]
theorem ne_nil {μ : Mu} {xs : List D} (h : plains 19 xs = true) : cmpM .ne μ (.lst xs) (.lst []) = some (!xs.isEmpty) := by
  have h1 : plain 20 (.lst xs) = true := by simpa [plain] using h
  unfold cmpM
  simp only [view, h1, show plain 20 (.lst []) = true from rfl, Bool.and_self, if_true, eqv]
  cases xs <;> simp [eqvs]
theorem eq_nil {μ : Mu} {xs : List D} (h : plains 19 xs = true) : cmpM .eq μ (.lst xs) (.lst []) = some xs.isEmpty := by
  have h1 : plain 20 (.lst xs) = true := by simpa [plain] using h
  unfold cmpM
  simp only [view, h1, show plain 20 (.lst []) = true from rfl, Bool.and_self, if_true, eqv]
  cases xs <;> simp [eqvs]
theorem len_str {μ : Mu} {s : T} (h : s.length ≤ LINE) : bltM .len μ [.str s] = some (.int s.length) := by simp [bltM, h]
theorem len_lst {μ : Mu} {xs : List D} : bltM .len μ [.lst xs] = some (.int xs.length) := rfl
theorem len_tup {μ : Mu} {k : Bool} {xs : List D} : bltM .len μ [.tup k xs] = some (.int xs.length) := rfl
theorem add_int {μ : Mu} {i j : Int} : binM .add μ (.int i) (.int j) = some (.int (i + j)) := rfl
theorem sub_int {μ : Mu} {i j : Int} : binM .sub μ (.int i) (.int j) = some (.int (i - j)) := rfl
theorem mod_int {μ : Mu} {i j : Int} (h : 0 < j) : binM .mod μ (.int i) (.int j) = some (.int (i % j)) := by simp [binM, h]
theorem fdiv_int {μ : Mu} {i j : Int} (h : 0 < j) (h2 : j < 1073741824) : binM .fdiv μ (.int i) (.int j) = some (.int (i / j)) := by simp [binM, h, h2]
theorem mul_int {μ : Mu} {i j : Int} (h : (small i || small j) = true) : binM .mul μ (.int i) (.int j) = some (.int (i * j)) := by simp only [binM, h, if_true]
theorem add_lst {μ : Mu} {xs ys : List D} (h : xs.length + ys.length ≤ LINE) : binM .add μ (.lst xs) (.lst ys) = some (.lst (xs ++ ys)) := by simp [binM, lstOf, view, h]
theorem add_str {μ : Mu} {xs ys : T} (h : xs.length + ys.length ≤ LINE) : binM .add μ (.str xs) (.str ys) = some (.str (xs ++ ys)) := by simp [binM, h]
theorem atD_nat {α : Type} {xs : List α} {i : Nat} (h : i < xs.length) : atD xs (i : Int) = xs[i]? := by
  unfold atD ixD
  rw [if_pos (Int.natCast_nonneg i), if_pos (by omega)]
  rfl
theorem atD_some {α : Type} {xs : List α} {i : Nat} {x : α} (h : xs[i]? = some x) : atD xs (i : Int) = some x := by
  rw [atD_nat (List.getElem?_eq_some_iff.mp h).1, h]
theorem atD_last {α : Type} {xs : List α} {x : α} : atD (xs ++ [x]) (-1) = some x := by
  unfold atD ixD
  rw [if_neg (by omega), if_pos (by simp only [List.length_append, List.length_cons, List.length_nil]; omega)]
  have : (-1 + ((xs ++ [x]).length : Int)).toNat = xs.length := by simp only [List.length_append, List.length_cons, List.length_nil]; omega
  show (xs ++ [x])[(-1 + ((xs ++ [x]).length : Int)).toNat]? = some x
  rw [this, List.getElem?_append_right (Nat.le_refl _), Nat.sub_self]
  rfl
theorem sub_str {μ : Mu} {s : T} {i : Int} {c : Nat} (hl : s.length ≤ LINE) (h : atD s i = some c) : subM μ (.str s) (.int i) = some (.str [c]) := by simp [subM, hl, h]
theorem sub_lst {μ : Mu} {xs : List D} {i : Int} : subM μ (.lst xs) (.int i) = atD xs i := rfl
theorem sub_tup {μ : Mu} {k : Bool} {xs : List D} {i : Int} : subM μ (.tup k xs) (.int i) = atD xs i := rfl
theorem sub_ref {μ : Mu} {c : Nat} {xs : List D} {i : Int} (h : μ[c]? = some (.lst xs)) : subM μ (.ref c) (.int i) = atD xs i := by simp [subM, dicOf, seqOf, view, h]
theorem tru_bl {μ : Mu} {b : Bool} : truth μ (.bl b) = some b := rfl
theorem clip_none {n d : Nat} : clip n d none = d := rfl
theorem clip_nat {n d i : Nat} : clip n d (some (i : Int)) = min i n := by
  show (if (i : Int) < 0 then ((i : Int) + n).toNat else min (i : Int).toNat n) = min i n
  rw [if_neg (by omega)]
  rfl
theorem in_two {μ : Mu} {k a b : T} {c : Bool} : cmpM .isin μ (.str k) (.tup c [.str a, .str b]) = some (decide (k = a) || decide (k = b)) := by
  have : cmpM .isin μ (.str k) (.tup c [.str a, .str b]) = some (a == k || (b == k || false)) := rfl
  rw [this]
  congr 1
  by_cases h1 : k = a
  · subst h1; simp
  · by_cases h2 : k = b
    · subst h2; simp
    · have n1 : (a == k) = false := beq_eq_false_iff_ne.mpr (Ne.symm h1)
      have n2 : (b == k) = false := beq_eq_false_iff_ne.mpr (Ne.symm h2)
      simp [n1, n2, h1, h2]
theorem nin_01 {μ : Mu} {b : Int} (h : b = 0 ∨ b = 1) {c : Bool} : cmpM .nin μ (.int b) (.tup c [.int 0, .int 1]) = some false := by
  rcases h with rfl | rfl <;> rfl
theorem seq_str {μ : Mu} {s : T} (h : s.length ≤ LINE) : seqIt μ (.str s) = some (s.map fun c => .str [c], []) := by simp [seqIt, h]
theorem seq_lst {μ : Mu} {xs : List D} : seqIt μ (.lst xs) = some (xs, []) := rfl
theorem seq_tup {μ : Mu} {k : Bool} {xs : List D} : seqIt μ (.tup k xs) = some (xs, []) := rfl
section
variable {ws : Wt} {b : D → Sl → Mu → R Fl} {P : Fl → Mu → Prop}
/-- a for, by what is still to come -/
theorem for_ind (J : List D → Sl → Mu → Prop) (hw : ∀ xs σ μ, J xs σ μ → wOk ws μ = true)
    (hs : ∀ x xs σ μ, J (x :: xs) σ μ → Ev (b x σ μ) fun fl μ' => (∃ σ', (fl = .nx σ' ∨ fl = .ct σ') ∧ J xs σ' μ') ∨ ∃ d, fl = .ret d ∧ P (.ret d) μ') (hn : ∀ σ μ, J [] σ μ → P (.nx σ) μ) :
    ∀ xs σ μ, J xs σ μ → Ev (forF ws b xs σ μ) P
  | [], σ, μ, h => by
    unfold forF
    rw [if_pos (hw _ σ μ h)]
    exact hn _ _ h
  | x :: xs, σ, μ, h => by
    unfold forF
    rw [if_pos (hw _ σ μ h), ev_bnd]
    refine (hs x xs σ μ h).mono fun fl μ' h => ?_
    rcases h with ⟨σ', h | h, hi⟩ | ⟨d, rfl, hd⟩
    · subst h
      exact for_ind J hw hs hn xs σ' μ' hi
    · subst h
      exact for_ind J hw hs hn xs σ' μ' hi
    · exact hd
end
theorem turn_1 {i : Nat} {g : Sl → Mu → R Fl} {x : D} {σ : Sl} {μ : Mu} (h : i < σ.length) : turnF (.one i) g x σ μ = g (σ.set i (some x)) μ := by
  unfold turnF bindT
  rw [if_pos h]
theorem set_cell {μ : Mu} {c : Nat} {xs : List D} {i : Nat} {v : D} (h : μ[c]? = some (.lst xs)) (hi : i < xs.length) : setM μ (.ref c) (.int i) v = some (μ.set c (.lst (xs.set i v))) := by
  simp [setM, h, ixD, hi]
theorem at_app {μ ν : Mu} {d : D} : (μ ++ d :: ν)[μ.length]? = some d := by
  rw [List.getElem?_append_right (Nat.le_refl _), Nat.sub_self]
  rfl
theorem set_app {μ ν : Mu} {d e : D} : (μ ++ d :: ν).set μ.length e = μ ++ e :: ν := by
  rw [List.set_append_right _ _ (Nat.le_refl _), Nat.sub_self]
  rfl
theorem view_cell {μ : Mu} {c : Nat} {xs : List D} (h : μ[c]? = some (.lst xs)) : view μ (.ref c) = .lst xs := by simp [view, h]
theorem lstOf_cell {μ : Mu} {c : Nat} {xs : List D} (h : μ[c]? = some (.lst xs)) : lstOf μ (.ref c) = some xs := by simp [lstOf, view, h]
theorem seqOf_cell {μ : Mu} {c : Nat} {xs : List D} (h : μ[c]? = some (.lst xs)) : seqOf μ (.ref c) = some xs := by simp [seqOf, view, h]
theorem dicOf_cell {μ : Mu} {c : Nat} {xs : List D} (h : μ[c]? = some (.lst xs)) : dicOf μ (.ref c) = none := by simp [dicOf, h]
theorem len_cell {μ : Mu} {c : Nat} {xs : List D} (h : μ[c]? = some (.lst xs)) : bltM .len μ [.ref c] = some (.int xs.length) := by simp [bltM, dicOf_cell h, seqOf_cell h]
theorem is_cell {μ : Mu} {c : Nat} {xs : List D} (h : μ[c]? = some (.lst xs)) : isCell μ (.ref c) = true := by simp [isCell, h]
theorem app_cell {μ : Mu} {c : Nat} {xs : List D} {v : D} (h : μ[c]? = some (.lst xs)) (hl : xs.length < LINE) : atCell μ (.ref c) (fun xs => if xs.length < LINE then some (xs ++ [v]) else none) = some (μ.set c (.lst (xs ++ [v]))) := by simp [atCell, h, hl]
theorem tup_cell {μ : Mu} {c : Nat} {xs : List D} (h : μ[c]? = some (.lst xs)) : bltM .tuple μ [.ref c] = some (.tup true xs) := by simp [bltM, view_cell h]
/-- the first p of A, the rest of B -/
def mx {α : Type} (A B : List α) (p : Nat) : List α := A.take p ++ B.drop p
section
variable {α : Type} {A B : List α} {p i : Nat}
theorem mx_len (h : A.length = B.length) (hp : p ≤ B.length) : (mx A B p).length = B.length := by
  unfold mx
  rw [List.length_append, List.length_take, List.length_drop]
  omega
theorem mx_hi (h : A.length = B.length) (hp : p ≤ B.length) (hi : p ≤ i) : (mx A B p)[i]? = B[i]? := by
  unfold mx
  rw [List.getElem?_append_right (by rw [List.length_take]; omega), List.length_take, List.getElem?_drop]
  congr 1
  omega
theorem mx_lo (h : A.length = B.length) (hp : p ≤ B.length) (hi : i < p) : (mx A B p)[i]? = A[i]? := by
  unfold mx
  rw [List.getElem?_append_left (by rw [List.length_take]; omega), List.getElem?_take_of_lt hi]
theorem mx_keep (h : A.length = B.length) (hp : p < B.length) (e : A[p]? = B[p]?) : mx A B p = mx A B (p + 1) := by
  apply List.ext_getElem?
  intro i
  by_cases h1 : i < p
  · rw [mx_lo h (by omega) h1, mx_lo h (by omega) (by omega)]
  · by_cases h2 : i = p
    · subst h2
      rw [mx_hi h (by omega) (Nat.le_refl _), mx_lo h (by omega) (by omega), e]
    · rw [mx_hi h (by omega) (by omega), mx_hi h (by omega) (by omega)]
theorem mx_set {a : α} (h : A.length = B.length) (hp : p < B.length) (e : A[p]? = some a) : (mx A B p).set p a = mx A B (p + 1) := by
  apply List.ext_getElem?
  intro i
  by_cases h1 : i = p
  · subst h1
    rw [List.getElem?_set_self (by rw [mx_len h (by omega)]; exact hp), mx_lo h (by omega) (by omega), e]
  · rw [List.getElem?_set_ne (fun z => h1 z.symm)]
    by_cases h2 : i < p
    · rw [mx_lo h (by omega) h2, mx_lo h (by omega) (by omega)]
    · rw [mx_hi h (by omega) (by omega), mx_hi h (by omega) (by omega)]
theorem mx_0 : mx A B 0 = B := by simp [mx]
theorem mx_end (h : A.length = B.length) : mx A B B.length = A := by
  unfold mx
  rw [List.drop_length, List.append_nil, List.take_of_length_le (by omega)]
end
theorem rngL_up {lo hi : Int} (h1 : small lo = true) (h2 : small hi = true) (h3 : decide (lo.natAbs < 1000000) = true) (h4 : decide (hi.natAbs < 1000000) = true) : rngL lo hi 1 = some ((List.range (hi - lo).toNat).map fun (k : Nat) => .int (lo + k)) := by
  unfold rngL
  simp only [h1, h2, h3, h4, Bool.and_self, if_true, beq_self_eq_true]
theorem small_nat {i : Int} (h1 : -1000000 < i) (h : i < 1000000) : small i = true := by
  unfold small two64
  have a : decide (-(18446744073709551616 : Int) < i) = true := decide_eq_true (by omega)
  have b : decide (i < (18446744073709551616 : Int)) = true := decide_eq_true (by omega)
  rw [a, b]
  rfl
theorem rng_nat {n : Nat} (h : n < 1000000) : rngM [.int (n : Int)] = some ((List.range n).map fun k => .int ((k : Nat) : Int)) := by
  have e := rngL_up (lo := 0) (hi := (n : Int)) (by decide) (small_nat (by omega) (by omega)) (by decide) (decide_eq_true (by omega))
  rw [show ((n : Int) - 0).toNat = n by omega] at e
  refine Eq.trans (show rngM [.int (n : Int)] = rngL 0 n 1 from rfl) (e.trans (congrArg some (List.map_congr_left fun k _ => ?_)))
  rw [Int.zero_add]
theorem rng_at {n k : Nat} {x : D} (h : ((List.range n).map fun k => D.int ((k : Nat) : Int))[k]? = some x) : k < n ∧ x = .int (k : Int) := by
  have hk : k < n := by simpa using (List.getElem?_eq_some_iff.mp h).1
  rw [List.getElem?_map, List.getElem?_range hk] at h
  cases h
  exact ⟨hk, rfl⟩
theorem enum_at : ∀ {xs : List D} {j k : Nat} {x : D}, (enumL j xs)[k]? = some x → ∃ y, xs[k]? = some y ∧ x = .tup false [.int ((j + k : Nat) : Int), y]
  | [], j, k, x, h => by simp [enumL] at h
  | y :: xs, j, 0, x, h => by
    simp [enumL] at h
    exact ⟨y, rfl, h.symm⟩
  | y :: xs, j, k + 1, x, h => by
    unfold enumL at h
    obtain ⟨z, h1, h2⟩ := enum_at (xs := xs) (j := j + 1) (k := k) (by simpa using h)
    exact ⟨z, by simpa using h1, by rw [h2]; congr 4; omega⟩
theorem enum_len : ∀ (xs : List D) (j : Nat), (enumL j xs).length = xs.length
  | [], _ => rfl
  | _ :: xs, j => by simp [enumL, enum_len xs]
theorem mapR_map {α : Type} {ws : Wt} {f : D → Mu → R (Option D)} {h : α → D} {g : α → D} {μ : Mu} (hw : wOk ws μ = true) : ∀ {l : List α}, (∀ a ∈ l, f (h a) μ = .ok (some (g a)) μ) → mapR ws f (l.map h) μ = .ok (l.map g) μ
  | [], _ => by unfold mapR; rw [List.map_nil]; simp only [hw, if_true]; rfl
  | a :: l, H => by
    rw [List.map_cons]
    unfold mapR
    rw [if_pos hw, H a List.mem_cons_self, bnd_ok, mapR_map hw fun b hb => H b (List.mem_cons_of_mem _ hb), bnd_ok]
    rfl
theorem mapR_fm {α β : Type} {ws : Wt} {f : D → Mu → R (Option D)} {h : α → D} {c : α → Option β} {g : β → D} {μ : Mu} (hw : wOk ws μ = true) : ∀ {l : List α}, (∀ a ∈ l, f (h a) μ = .ok ((c a).map g) μ) → mapR ws f (l.map h) μ = .ok ((l.filterMap c).map g) μ
  | [], _ => by unfold mapR; rw [List.map_nil]; simp only [hw, if_true]; rfl
  | a :: l, H => by
    rw [List.map_cons]
    unfold mapR
    rw [if_pos hw, H a List.mem_cons_self, bnd_ok, mapR_fm hw fun b hb => H b (List.mem_cons_of_mem _ hb), bnd_ok]
    cases hc : c a with
    | none => rw [List.filterMap_cons_none hc]; rfl
    | some b => rw [List.filterMap_cons_some hc]; rfl
theorem turnM_1 {i : Nat} {σ : Sl} {fq : Sl → Mu → R Bool} {fe : Sl → Mu → R D} {x : D} {μ : Mu} (h : i < σ.length) : turnM (.one i) σ fq fe x μ = (fq ((σ.set i none).set i (some x)) μ).bnd fun b μ => if b = true then (fe ((σ.set i none).set i (some x)) μ).bnd fun y μ => .ok (some y) μ else .ok none μ := by
  unfold turnM tgS wipeM wipeM bindT
  rw [if_pos (by simpa using h)]
theorem ev_mapR {α : Type} {ws : Wt} {f : D → Mu → R (Option D)} {h : α → D} (g : α → D) {μ : Mu} {l : List α} {P : List D → Mu → Prop} (hw : wOk ws μ = true) (hf : ∀ a ∈ l, f (h a) μ = .ok (some (g a)) μ) (hp : P (l.map g) μ) : Ev (mapR ws f (l.map h) μ) P := by
  rw [mapR_map hw hf]
  exact hp
theorem ev_mapF {α β : Type} {ws : Wt} {f : D → Mu → R (Option D)} {h : α → D} (c : α → Option β) (g : β → D) {μ : Mu} {l : List α} {P : List D → Mu → Prop} (hw : wOk ws μ = true) (hf : ∀ a ∈ l, f (h a) μ = .ok ((c a).map g) μ) (hp : P ((l.filterMap c).map g) μ) : Ev (mapR ws f (l.map h) μ) P := by
  rw [mapR_fm hw hf]
  exact hp
theorem set_map {α : Type} {f : α → D} {l : List α} {i : Nat} {x : α} : (l.map f).set i (f x) = (l.set i x).map f := (List.map_set ..).symm
theorem turn_2 {i j : Nat} {g : Sl → Mu → R Fl} {x y : D} {k : Bool} {σ : Sl} {μ : Mu} (h : i < σ.length) (h2 : j < σ.length) : turnF (.tup [.one i, .one j]) g (.tup k [x, y]) σ μ = g ((σ.set i (some x)).set j (some y)) μ := by
  unfold turnF bindT
  simp only [seqOf, view, bindTs, bindT, h, if_true, List.length_set, h2]
theorem atD_neg1 {α : Type} {xs : List α} {x : α} (h : xs.getLast? = some x) : atD xs (-1) = some x := by
  obtain ⟨ys, rfl⟩ := List.getLast?_eq_some_iff.mp h
  exact atD_last
theorem atD_0 {α : Type} {xs : List α} {x : α} (h : xs.head? = some x) : atD xs 0 = some x := by
  cases xs with
  | nil => cases h
  | cons y ys => cases h; exact atD_some (i := 0) rfl
theorem slc_hi {μ : Mu} {xs : List D} {k : Nat} : slcM μ (.lst xs) none (some (k : Int)) = some (.lst (xs.take k)) := by
  show some (D.lst (cutL xs none (some (k : Int)))) = _
  unfold cutL
  rw [clip_none, clip_nat]
  simp [List.take_eq_take_iff]
theorem slc_lo {μ : Mu} {xs : List D} {k : Nat} (h : k ≤ xs.length) : slcM μ (.lst xs) (some (k : Int)) none = some (.lst (xs.drop k)) := by
  show some (D.lst (cutL xs (some (k : Int)) none)) = _
  unfold cutL
  rw [clip_none, clip_nat, Nat.min_eq_left h]
  simp [List.take_of_length_le]
theorem slc_lh {μ : Mu} {xs : List D} {i k : Nat} (h : i ≤ xs.length) (hk : k ≤ xs.length) : slcM μ (.lst xs) (some (i : Int)) (some (k : Int)) = some (.lst ((xs.drop i).take (k - i))) := by
  show some (D.lst (cutL xs (some (i : Int)) (some (k : Int)))) = _
  unfold cutL
  rw [clip_nat, clip_nat, Nat.min_eq_left h, Nat.min_eq_left hk]
theorem slc_str {μ : Mu} {s : T} {i k : Nat} (hl : s.length ≤ LINE) (h : i ≤ s.length) : slcM μ (.str s) (some (i : Int)) (some (k : Int)) = some (.str ((s.drop i).take (k - i))) := by
  have e : slcM μ (.str s) (some (i : Int)) (some (k : Int)) = if s.length ≤ LINE then some (.str (cutL s (some (i : Int)) (some (k : Int)))) else none := rfl
  rw [e, if_pos hl]
  unfold cutL
  rw [clip_nat, clip_nat, Nat.min_eq_left h]
  congr 2
  rw [List.take_eq_take_iff, List.length_drop]
  omega
end Mi
set_option Elab.async false
set_option linter.all false
set_option maxRecDepth 100000
set_option maxHeartbeats 4000000
/-! P16: what each def of the law computes: signs, levels. -/
namespace Mi
def lefts : T := [97, 98, 99, 100, 101, 102, 103, 104, 105, 106, 107, 108, 109, 110, 111, 112, 113, 114, 115, 116, 117, 118, 119, 120, 121, 122]
def rights : T := [65, 66, 67, 68, 69, 70, 71, 72, 73, 74, 75, 76, 77, 78, 79, 80, 81, 82, 83, 84, 85, 86, 87, 88, 89, 90]
def digs : T := [48, 49, 50, 51, 52, 53, 54, 55, 56, 57]
def sgs : T := [43, 45, 46, 44, 58]
abbrev K (n : Nat) : Env := pkK.env n
theorem fn_at {n i : Nat} {d : Df} {as : List D} {μ : Mu} (h : pkK.defs[i]? = some d) : (K (n + 1)).fn i as μ = fun_ (K n) d.N.length d.keep d.b as μ := by
  show (match pkK.defs[i]? with
    | some d => fun_ (K n) d.N.length d.keep d.b as μ
    | none => .no) = _
  rw [h]
theorem g_0 (n : Nat) : (K n).glob 0 = .int 80 := by cases n <;> rfl
theorem g_1 (n : Nat) : (K n).glob 1 = .str rights := by cases n <;> rfl
theorem g_2 (n : Nat) : (K n).glob 2 = .str lefts := by cases n <;> rfl
def kindC (c : Nat) : T := if lefts.contains c then [76] else if rights.contains c then [82] else if digs.contains c then [78] else if sgs.contains c then [83] else [66]
/-- a kind -/
def IsK (k : T) : Prop := k = [76] ∨ k = [82] ∨ k = [78] ∨ k = [66] ∨ k = [83] ∨ k = []
theorem IsK.ok {k : T} (h : IsK k) : cOk k := by rcases h with rfl | rfl | rfl | rfl | rfl | rfl <;> rfl
theorem kindC_is (c : Nat) : IsK (kindC c) := by
  unfold kindC IsK
  split
  · simp
  split
  · simp
  split
  · simp
  split <;> simp
theorem f_kind (n c : Nat) (μ : Mu) (hμ : drys μ = true) : (K (n + 1)).fn 1 [.str [c]] μ = .ok (.str (kindC c)) μ := by
  show fun_ (K n) 1 false b_kind_of_sign [.str [c]] μ = _
  refine fun_ret [some (.str [c])] rfl ?_
  unfold b_kind_of_sign kindC
  simp -implicitDefEqProofs only [rns_cons, rns_nil, sL_cons, sL_nil, eL_cons, eL_nil, rn, ev, evT, evs, evo, evq, evi, evC, bnd_ok, calm_ok, opt_some, nxt_nx, nxt_ret, nxt_brk, nxt_ct, ev_ok, fresh, bindT, bindTs, setSl, Option.map_some, Option.map_none, List.getElem?_cons_zero, List.getElem?_cons_succ, List.set_cons_zero, List.set_cons_succ, List.length_cons, List.length_nil, Nat.reduceAdd, Nat.reduceLT, Nat.zero_lt_succ, Nat.reduceSub, if_true, ite_tt, ite_ff, Bool.false_eq_true, if_false, in_str, lt_int, le_int, gt_int, ge_int, eq_int, ne_int, eq_bl, ne_bl, len_lst, len_tup, add_int, sub_int, sub_lst, sub_tup, tru_bl, recvM, g_1, g_2]
  cases h1 : List.contains lefts c
  · simp -implicitDefEqProofs only [rns_cons, rns_nil, sL_cons, sL_nil, eL_cons, eL_nil, rn, ev, evT, evs, evo, evq, evi, evC, bnd_ok, calm_ok, opt_some, nxt_nx, nxt_ret, nxt_brk, nxt_ct, ev_ok, fresh, bindT, bindTs, setSl, Option.map_some, Option.map_none, List.getElem?_cons_zero, List.getElem?_cons_succ, List.set_cons_zero, List.set_cons_succ, List.length_cons, List.length_nil, Nat.reduceAdd, Nat.reduceLT, Nat.zero_lt_succ, Nat.reduceSub, if_true, ite_tt, ite_ff, Bool.false_eq_true, if_false, in_str, lt_int, le_int, gt_int, ge_int, eq_int, ne_int, eq_bl, ne_bl, len_lst, len_tup, add_int, sub_int, sub_lst, sub_tup, tru_bl, recvM, g_1, g_2]
    cases h2 : List.contains rights c
    · simp -implicitDefEqProofs only [rns_cons, rns_nil, sL_cons, sL_nil, eL_cons, eL_nil, rn, ev, evT, evs, evo, evq, evi, evC, bnd_ok, calm_ok, opt_some, nxt_nx, nxt_ret, nxt_brk, nxt_ct, ev_ok, fresh, bindT, bindTs, setSl, Option.map_some, Option.map_none, List.getElem?_cons_zero, List.getElem?_cons_succ, List.set_cons_zero, List.set_cons_succ, List.length_cons, List.length_nil, Nat.reduceAdd, Nat.reduceLT, Nat.zero_lt_succ, Nat.reduceSub, if_true, ite_tt, ite_ff, Bool.false_eq_true, if_false, in_str, lt_int, le_int, gt_int, ge_int, eq_int, ne_int, eq_bl, ne_bl, len_lst, len_tup, add_int, sub_int, sub_lst, sub_tup, tru_bl, recvM, g_1, g_2]
      change Ev ((if List.contains digs c = true then _ else _ : R Fl).bnd _) _
      cases h3 : List.contains digs c
      · simp -implicitDefEqProofs only [rns_cons, rns_nil, sL_cons, sL_nil, eL_cons, eL_nil, rn, ev, evT, evs, evo, evq, evi, evC, bnd_ok, calm_ok, opt_some, nxt_nx, nxt_ret, nxt_brk, nxt_ct, ev_ok, fresh, bindT, bindTs, setSl, Option.map_some, Option.map_none, List.getElem?_cons_zero, List.getElem?_cons_succ, List.set_cons_zero, List.set_cons_succ, List.length_cons, List.length_nil, Nat.reduceAdd, Nat.reduceLT, Nat.zero_lt_succ, Nat.reduceSub, if_true, ite_tt, ite_ff, Bool.false_eq_true, if_false, in_str, lt_int, le_int, gt_int, ge_int, eq_int, ne_int, eq_bl, ne_bl, len_lst, len_tup, add_int, sub_int, sub_lst, sub_tup, tru_bl, recvM, g_1, g_2]
        change Ev (((if List.contains sgs c = true then _ else _ : R D).bnd _).bnd _) _
        cases h4 : List.contains sgs c
        · simp -implicitDefEqProofs only [rns_cons, rns_nil, sL_cons, sL_nil, eL_cons, eL_nil, rn, ev, evT, evs, evo, evq, evi, evC, bnd_ok, calm_ok, opt_some, nxt_nx, nxt_ret, nxt_brk, nxt_ct, ev_ok, fresh, bindT, bindTs, setSl, Option.map_some, Option.map_none, List.getElem?_cons_zero, List.getElem?_cons_succ, List.set_cons_zero, List.set_cons_succ, List.length_cons, List.length_nil, Nat.reduceAdd, Nat.reduceLT, Nat.zero_lt_succ, Nat.reduceSub, if_true, ite_tt, ite_ff, Bool.false_eq_true, if_false, in_str, lt_int, le_int, gt_int, ge_int, eq_int, ne_int, eq_bl, ne_bl, len_lst, len_tup, add_int, sub_int, sub_lst, sub_tup, tru_bl, recvM]
          exact ⟨_, .inl rfl, done_dry0 hμ rfl⟩
        · simp -implicitDefEqProofs only [rns_cons, rns_nil, sL_cons, sL_nil, eL_cons, eL_nil, rn, ev, evT, evs, evo, evq, evi, evC, bnd_ok, calm_ok, opt_some, nxt_nx, nxt_ret, nxt_brk, nxt_ct, ev_ok, fresh, bindT, bindTs, setSl, Option.map_some, Option.map_none, List.getElem?_cons_zero, List.getElem?_cons_succ, List.set_cons_zero, List.set_cons_succ, List.length_cons, List.length_nil, Nat.reduceAdd, Nat.reduceLT, Nat.zero_lt_succ, Nat.reduceSub, if_true, ite_tt, ite_ff, Bool.false_eq_true, if_false, in_str, lt_int, le_int, gt_int, ge_int, eq_int, ne_int, eq_bl, ne_bl, len_lst, len_tup, add_int, sub_int, sub_lst, sub_tup, tru_bl, recvM]
          exact ⟨_, .inl rfl, done_dry0 hμ rfl⟩
      · simp -implicitDefEqProofs only [rns_cons, rns_nil, sL_cons, sL_nil, eL_cons, eL_nil, rn, ev, evT, evs, evo, evq, evi, evC, bnd_ok, calm_ok, opt_some, nxt_nx, nxt_ret, nxt_brk, nxt_ct, ev_ok, fresh, bindT, bindTs, setSl, Option.map_some, Option.map_none, List.getElem?_cons_zero, List.getElem?_cons_succ, List.set_cons_zero, List.set_cons_succ, List.length_cons, List.length_nil, Nat.reduceAdd, Nat.reduceLT, Nat.zero_lt_succ, Nat.reduceSub, if_true, ite_tt, ite_ff, Bool.false_eq_true, if_false, in_str, lt_int, le_int, gt_int, ge_int, eq_int, ne_int, eq_bl, ne_bl, len_lst, len_tup, add_int, sub_int, sub_lst, sub_tup, tru_bl, recvM]
        exact ⟨_, .inl rfl, done_dry0 hμ rfl⟩
    · simp -implicitDefEqProofs only [rns_cons, rns_nil, sL_cons, sL_nil, eL_cons, eL_nil, rn, ev, evT, evs, evo, evq, evi, evC, bnd_ok, calm_ok, opt_some, nxt_nx, nxt_ret, nxt_brk, nxt_ct, ev_ok, fresh, bindT, bindTs, setSl, Option.map_some, Option.map_none, List.getElem?_cons_zero, List.getElem?_cons_succ, List.set_cons_zero, List.set_cons_succ, List.length_cons, List.length_nil, Nat.reduceAdd, Nat.reduceLT, Nat.zero_lt_succ, Nat.reduceSub, if_true, ite_tt, ite_ff, Bool.false_eq_true, if_false, in_str, lt_int, le_int, gt_int, ge_int, eq_int, ne_int, eq_bl, ne_bl, len_lst, len_tup, add_int, sub_int, sub_lst, sub_tup, tru_bl, recvM]
      exact ⟨_, .inl rfl, done_dry0 hμ rfl⟩
  · simp -implicitDefEqProofs only [rns_cons, rns_nil, sL_cons, sL_nil, eL_cons, eL_nil, rn, ev, evT, evs, evo, evq, evi, evC, bnd_ok, calm_ok, opt_some, nxt_nx, nxt_ret, nxt_brk, nxt_ct, ev_ok, fresh, bindT, bindTs, setSl, Option.map_some, Option.map_none, List.getElem?_cons_zero, List.getElem?_cons_succ, List.set_cons_zero, List.set_cons_succ, List.length_cons, List.length_nil, Nat.reduceAdd, Nat.reduceLT, Nat.zero_lt_succ, Nat.reduceSub, if_true, ite_tt, ite_ff, Bool.false_eq_true, if_false, in_str, lt_int, le_int, gt_int, ge_int, eq_int, ne_int, eq_bl, ne_bl, len_lst, len_tup, add_int, sub_int, sub_lst, sub_tup, tru_bl, recvM]
    exact ⟨_, .inl rfl, done_dry0 hμ rfl⟩
/-- a text of the law's -/
structure Tx (t : T) : Prop where
  len : t.length ≤ 80
  al : ∀ c ∈ t, c ∈ [97, 98, 65, 66, 49, 50, 46, 32, 40, 41, 44, 45]
theorem Tx.line {t : T} (h : Tx t) : t.length ≤ LINE := Nat.le_trans h.len (by decide)
theorem f_check (n : Nat) (t : T) (μ : Mu) (hμ : drys μ = true) (ht : Tx t) : (K (n + 1)).fn 0 [.str t] μ = .ok .non μ := by
  show fun_ (K n) 1 false b_check_line [.str t] μ = _
  refine fun_ret [some (.str t)] rfl ?_
  unfold b_check_line
  have h1 : List.contains t 10 = false := by
    cases q : List.contains t 10 with
    | false => rfl
    | true =>
      have := ht.al 10 (by simpa using q)
      simp at this
  have h2 : decide ((80 : Int) < (t.length : Int)) = false := decide_eq_false (by have := ht.len; omega)
  simp -implicitDefEqProofs only [rns_cons, rns_nil, sL_cons, sL_nil, eL_cons, eL_nil, rn, ev, evT, evs, evo, evq, evi, evC, bnd_ok, calm_ok, opt_some, nxt_nx, nxt_ret, nxt_brk, nxt_ct, ev_ok, fresh, bindT, bindTs, setSl, Option.map_some, Option.map_none, List.getElem?_cons_zero, List.getElem?_cons_succ, List.set_cons_zero, List.set_cons_succ, List.length_cons, List.length_nil, Nat.reduceAdd, Nat.reduceLT, Nat.zero_lt_succ, Nat.reduceSub, if_true, ite_tt, ite_ff, Bool.false_eq_true, if_false, in_str, lt_int, le_int, gt_int, ge_int, eq_int, ne_int, eq_bl, ne_bl, len_lst, len_tup, add_int, sub_int, sub_lst, sub_tup, tru_bl, recvM, g_0, h1, h2, len_str ht.line]
  exact ⟨_, .inr ⟨⟨_, rfl⟩, rfl⟩, done_dry0 hμ rfl⟩
def beginP : T → Int
  | [] => 0
  | c :: r => if kindC c = [76] then 0 else if kindC c = [82] then 1 else beginP r
theorem f_begin (n : Nat) (t : T) (μ : Mu) (hμ : drys μ = true) (ht : Tx t) : (K (n + 2)).fn 2 [.str t] μ = .ok (.int (beginP t)) μ := by
  show fun_ (K (n + 1)) 2 false b_begin_of [.str t] μ = _
  refine fun_ret [some (.str t), none] rfl ?_
  unfold b_begin_of
  simp -implicitDefEqProofs only [rns_cons, rns_nil, sL_cons, sL_nil, eL_cons, eL_nil, rn, ev, evT, evs, evo, evq, evi, evC, bnd_ok, calm_ok, opt_some, nxt_nx, nxt_ret, nxt_brk, nxt_ct, ev_ok, fresh, bindT, bindTs, setSl, Option.map_some, Option.map_none, List.getElem?_cons_zero, List.getElem?_cons_succ, List.set_cons_zero, List.set_cons_succ, List.length_cons, List.length_nil, Nat.reduceAdd, Nat.reduceLT, Nat.zero_lt_succ, Nat.reduceSub, if_true, ite_tt, ite_ff, Bool.false_eq_true, if_false, in_str, lt_int, le_int, gt_int, ge_int, eq_int, ne_int, eq_bl, ne_bl, len_lst, len_tup, add_int, sub_int, sub_lst, sub_tup, tru_bl, recvM, seq_str ht.line]
  rw [ev_bnd]
  refine for_ind (fun xs σ μ' => μ' = μ ∧ ∃ r a b, xs = r.map (fun c => D.str [c]) ∧ σ = [a, b] ∧ beginP r = beginP t) (fun _ _ _ _ => rfl) ?_ ?_ _ _ _ ⟨rfl, t, _, _, rfl, rfl, rfl⟩
  · rintro x xs σ μ' ⟨rfl, r, a, b, hr, rfl, hb⟩
    cases r with
    | nil => cases hr
    | cons c r =>
      rw [List.map_cons] at hr
      injection hr with h1 h2
      subst h1 h2
      rw [turn_1 (by simp)]
      simp -implicitDefEqProofs only [rns_cons, rns_nil, sL_cons, sL_nil, eL_cons, eL_nil, rn, ev, evT, evs, evo, evq, evi, evC, bnd_ok, calm_ok, opt_some, nxt_nx, nxt_ret, nxt_brk, nxt_ct, ev_ok, fresh, bindT, bindTs, setSl, Option.map_some, Option.map_none, List.getElem?_cons_zero, List.getElem?_cons_succ, List.set_cons_zero, List.set_cons_succ, List.length_cons, List.length_nil, Nat.reduceAdd, Nat.reduceLT, Nat.zero_lt_succ, Nat.reduceSub, if_true, ite_tt, ite_ff, Bool.false_eq_true, if_false, in_str, lt_int, le_int, gt_int, ge_int, eq_int, ne_int, eq_bl, ne_bl, len_lst, len_tup, add_int, sub_int, sub_lst, sub_tup, tru_bl, recvM, f_kind n c μ' hμ, in_two, eq_str (kindC_is c).ok (show cOk [82] from rfl)]
      have e : beginP (c :: r) = if kindC c = [76] then 0 else if kindC c = [82] then 1 else beginP r := rfl
      rw [← hb, e]
      by_cases h1 : kindC c = [76]
      · simp only [h1]
        simp -implicitDefEqProofs only [rns_cons, rns_nil, sL_cons, sL_nil, eL_cons, eL_nil, rn, ev, evT, evs, evo, evq, evi, evC, bnd_ok, calm_ok, opt_some, nxt_nx, nxt_ret, nxt_brk, nxt_ct, ev_ok, fresh, bindT, bindTs, setSl, Option.map_some, Option.map_none, List.getElem?_cons_zero, List.getElem?_cons_succ, List.set_cons_zero, List.set_cons_succ, List.length_cons, List.length_nil, Nat.reduceAdd, Nat.reduceLT, Nat.zero_lt_succ, Nat.reduceSub, if_true, ite_tt, ite_ff, Bool.false_eq_true, if_false, in_str, lt_int, le_int, gt_int, ge_int, eq_int, ne_int, eq_bl, ne_bl, len_lst, len_tup, add_int, sub_int, sub_lst, sub_tup, tru_bl, recvM]
        exact .inr ⟨_, rfl, _, .inl rfl, done_dry0 hμ rfl⟩
      · by_cases h2 : kindC c = [82]
        · simp only [h2]
          simp -implicitDefEqProofs only [rns_cons, rns_nil, sL_cons, sL_nil, eL_cons, eL_nil, rn, ev, evT, evs, evo, evq, evi, evC, bnd_ok, calm_ok, opt_some, nxt_nx, nxt_ret, nxt_brk, nxt_ct, ev_ok, fresh, bindT, bindTs, setSl, Option.map_some, Option.map_none, List.getElem?_cons_zero, List.getElem?_cons_succ, List.set_cons_zero, List.set_cons_succ, List.length_cons, List.length_nil, Nat.reduceAdd, Nat.reduceLT, Nat.zero_lt_succ, Nat.reduceSub, if_true, ite_tt, ite_ff, Bool.false_eq_true, if_false, in_str, lt_int, le_int, gt_int, ge_int, eq_int, ne_int, eq_bl, ne_bl, len_lst, len_tup, add_int, sub_int, sub_lst, sub_tup, tru_bl, recvM]
          exact .inr ⟨_, rfl, _, .inl rfl, done_dry0 hμ rfl⟩
        · simp only [h1, h2, decide_false, Bool.or_self]
          simp -implicitDefEqProofs only [rns_cons, rns_nil, sL_cons, sL_nil, eL_cons, eL_nil, rn, ev, evT, evs, evo, evq, evi, evC, bnd_ok, calm_ok, opt_some, nxt_nx, nxt_ret, nxt_brk, nxt_ct, ev_ok, fresh, bindT, bindTs, setSl, Option.map_some, Option.map_none, List.getElem?_cons_zero, List.getElem?_cons_succ, List.set_cons_zero, List.set_cons_succ, List.length_cons, List.length_nil, Nat.reduceAdd, Nat.reduceLT, Nat.zero_lt_succ, Nat.reduceSub, if_true, ite_tt, ite_ff, Bool.false_eq_true, if_false, in_str, lt_int, le_int, gt_int, ge_int, eq_int, ne_int, eq_bl, ne_bl, len_lst, len_tup, add_int, sub_int, sub_lst, sub_tup, tru_bl, recvM]
          exact .inl ⟨_, .inl rfl, (by first | exact True.intro | rfl | contradiction | assumption), r, _, _, (by first | exact True.intro | rfl | contradiction | assumption), (by first | exact True.intro | rfl | contradiction | assumption), (by first | exact True.intro | rfl | contradiction | assumption)⟩
  · rintro σ μ' ⟨rfl, r, a, b, hr, rfl, hb⟩
    cases r with
    | nil =>
      simp -implicitDefEqProofs only [rns_cons, rns_nil, sL_cons, sL_nil, eL_cons, eL_nil, rn, ev, evT, evs, evo, evq, evi, evC, bnd_ok, calm_ok, opt_some, nxt_nx, nxt_ret, nxt_brk, nxt_ct, ev_ok, fresh, bindT, bindTs, setSl, Option.map_some, Option.map_none, List.getElem?_cons_zero, List.getElem?_cons_succ, List.set_cons_zero, List.set_cons_succ, List.length_cons, List.length_nil, Nat.reduceAdd, Nat.reduceLT, Nat.zero_lt_succ, Nat.reduceSub, if_true, ite_tt, ite_ff, Bool.false_eq_true, if_false, in_str, lt_int, le_int, gt_int, ge_int, eq_int, ne_int, eq_bl, ne_bl, len_lst, len_tup, add_int, sub_int, sub_lst, sub_tup, tru_bl, recvM]
      rw [← hb]
      exact ⟨_, .inl rfl, done_dry0 hμ rfl⟩
    | cons c r => cases hr
def KS (l : List T) : Prop := ∀ k ∈ l, IsK k
def levP (b : Int) (k : T) : Int := if k = [82] then 1 else if k = [76] then (if b = 0 then 0 else 2) else if k = [78] then 2 else b
theorem f_levels (n : Nat) (t : T) (b : Int) (l : List T) (μ : Mu) (hμ : drys μ = true) (ht : Tx t) (hb : b = 0 ∨ b = 1) (hl : l.length ≤ 80) (hk : KS l)
    (hp : ∀ μ, drys μ = true → (K (n + 1)).fn 4 [.str t, .int b] μ = .ok (.lst (l.map .str)) μ) : (K (n + 2)).fn 3 [.str t, .int b] μ = .ok (.tup true ((l.map (levP b)).map .int)) μ := by
  show fun_ (K (n + 1)) 5 false b_levels_of [.str t, .int b] μ = _
  refine fun_ret [some (.str t), some (.int b), none, none, none] rfl ?_
  unfold b_levels_of
  simp -implicitDefEqProofs only [rns_cons, rns_nil, sL_cons, sL_nil, eL_cons, eL_nil, rn, ev, evT, evs, evo, evq, evi, evC, bnd_ok, calm_ok, opt_some, nxt_nx, nxt_ret, nxt_brk, nxt_ct, ev_ok, fresh, bindT, bindTs, setSl, Option.map_some, Option.map_none, List.getElem?_cons_zero, List.getElem?_cons_succ, List.set_cons_zero, List.set_cons_succ, List.length_cons, List.length_nil, Nat.reduceAdd, Nat.reduceLT, Nat.zero_lt_succ, Nat.reduceSub, if_true, ite_tt, ite_ff, Bool.false_eq_true, if_false, in_str, lt_int, le_int, gt_int, ge_int, eq_int, ne_int, eq_bl, ne_bl, len_lst, len_tup, add_int, sub_int, sub_lst, sub_tup, tru_bl, recvM, f_check n t μ hμ ht, nin_01 hb, hp μ hμ, seq_lst]
  rw [ev_bnd]
  refine for_ind (fun xs σ μ' => ∃ r q a, xs = r.map .str ∧ l = q ++ r ∧ σ = [some (.str t), some (.int b), some (.lst (l.map .str)), some (.ref μ.length), a] ∧ μ' = μ ++ [.lst ((q.map (levP b)).map .int)]) (fun _ _ _ _ => rfl) ?_ ?_ _ _ _ ⟨l, [], _, rfl, rfl, rfl, rfl⟩
  · rintro x xs σ μ' ⟨r, q, a, hr, he, rfl, rfl⟩
    cases r with
    | nil => cases hr
    | cons c r =>
      rw [List.map_cons] at hr
      injection hr with h1 h2
      subst h1 h2
      have hc : IsK c := hk c (by rw [he]; simp)
      have hlen : q.length < 80 := by
        have := congrArg List.length he
        simp at this
        omega
      rw [turn_1 (by simp)]
      have cell : (μ ++ [D.lst ((q.map (levP b)).map .int)])[μ.length]? = some (.lst ((q.map (levP b)).map .int)) := at_app
      have hL : ((q.map (levP b)).map D.int).length < LINE := by simp; exact Nat.lt_trans hlen (by decide)
      have fin : ∀ v : Int, levP b c = v → (μ ++ [D.lst ((q.map (levP b)).map .int)]).set μ.length (.lst ((q.map (levP b)).map D.int ++ [.int v])) = μ ++ [.lst (((q ++ [c]).map (levP b)).map .int)] := fun v hv => by
        rw [set_app]
        simp [hv]
      have ap := fun v : D => app_cell (v := v) cell hL
      simp -implicitDefEqProofs only [rns_cons, rns_nil, sL_cons, sL_nil, eL_cons, eL_nil, rn, ev, evT, evs, evo, evq, evi, evC, bnd_ok, calm_ok, opt_some, nxt_nx, nxt_ret, nxt_brk, nxt_ct, ev_ok, fresh, bindT, bindTs, setSl, Option.map_some, Option.map_none, List.getElem?_cons_zero, List.getElem?_cons_succ, List.set_cons_zero, List.set_cons_succ, List.length_cons, List.length_nil, Nat.reduceAdd, Nat.reduceLT, Nat.zero_lt_succ, Nat.reduceSub, if_true, ite_tt, ite_ff, Bool.false_eq_true, if_false, in_str, lt_int, le_int, gt_int, ge_int, eq_int, ne_int, eq_bl, ne_bl, len_lst, len_tup, add_int, sub_int, sub_lst, sub_tup, tru_bl, recvM, eq_str hc.ok (show cOk [82] from rfl), eq_str hc.ok (show cOk [76] from rfl), eq_str hc.ok (show cOk [78] from rfl), is_cell cell]
      by_cases h1 : c = [82]
      · subst h1
        simp -implicitDefEqProofs only [rns_cons, rns_nil, sL_cons, sL_nil, eL_cons, eL_nil, rn, ev, evT, evs, evo, evq, evi, evC, bnd_ok, calm_ok, opt_some, nxt_nx, nxt_ret, nxt_brk, nxt_ct, ev_ok, fresh, bindT, bindTs, setSl, Option.map_some, Option.map_none, List.getElem?_cons_zero, List.getElem?_cons_succ, List.set_cons_zero, List.set_cons_succ, List.length_cons, List.length_nil, Nat.reduceAdd, Nat.reduceLT, Nat.zero_lt_succ, Nat.reduceSub, if_true, ite_tt, ite_ff, Bool.false_eq_true, if_false, in_str, lt_int, le_int, gt_int, ge_int, eq_int, ne_int, eq_bl, ne_bl, len_lst, len_tup, add_int, sub_int, sub_lst, sub_tup, tru_bl, recvM, beq_self_eq_true, is_cell cell, ap]
        exact .inl ⟨_, .inl rfl, r, q ++ [[82]], _, rfl, by rw [he]; simp, rfl, fin _ (by simp [levP])⟩
      · have n1 : (c == [82]) = false := beq_eq_false_iff_ne.mpr h1
        by_cases h2 : c = [76]
        · subst h2
          rcases hb with rfl | rfl
          · simp -implicitDefEqProofs only [rns_cons, rns_nil, sL_cons, sL_nil, eL_cons, eL_nil, rn, ev, evT, evs, evo, evq, evi, evC, bnd_ok, calm_ok, opt_some, nxt_nx, nxt_ret, nxt_brk, nxt_ct, ev_ok, fresh, bindT, bindTs, setSl, Option.map_some, Option.map_none, List.getElem?_cons_zero, List.getElem?_cons_succ, List.set_cons_zero, List.set_cons_succ, List.length_cons, List.length_nil, Nat.reduceAdd, Nat.reduceLT, Nat.zero_lt_succ, Nat.reduceSub, if_true, ite_tt, ite_ff, Bool.false_eq_true, if_false, in_str, lt_int, le_int, gt_int, ge_int, eq_int, ne_int, eq_bl, ne_bl, len_lst, len_tup, add_int, sub_int, sub_lst, sub_tup, tru_bl, recvM, n1, beq_self_eq_true, is_cell cell, ap, eq_str hc.ok (show cOk [76] from rfl)]
            exact .inl ⟨_, .inl rfl, r, q ++ [[76]], _, rfl, by rw [he]; simp, rfl, fin _ (by simp [levP])⟩
          · simp -implicitDefEqProofs only [rns_cons, rns_nil, sL_cons, sL_nil, eL_cons, eL_nil, rn, ev, evT, evs, evo, evq, evi, evC, bnd_ok, calm_ok, opt_some, nxt_nx, nxt_ret, nxt_brk, nxt_ct, ev_ok, fresh, bindT, bindTs, setSl, Option.map_some, Option.map_none, List.getElem?_cons_zero, List.getElem?_cons_succ, List.set_cons_zero, List.set_cons_succ, List.length_cons, List.length_nil, Nat.reduceAdd, Nat.reduceLT, Nat.zero_lt_succ, Nat.reduceSub, if_true, ite_tt, ite_ff, Bool.false_eq_true, if_false, in_str, lt_int, le_int, gt_int, ge_int, eq_int, ne_int, eq_bl, ne_bl, len_lst, len_tup, add_int, sub_int, sub_lst, sub_tup, tru_bl, recvM, n1, beq_self_eq_true, is_cell cell, ap, eq_str hc.ok (show cOk [76] from rfl), show ((1 : Int) == 0) = false from rfl]
            exact .inl ⟨_, .inl rfl, r, q ++ [[76]], _, rfl, by rw [he]; simp, rfl, fin _ (by simp [levP])⟩
        · have n2 : (c == [76]) = false := beq_eq_false_iff_ne.mpr h2
          by_cases h3 : c = [78]
          · subst h3
            simp -implicitDefEqProofs only [rns_cons, rns_nil, sL_cons, sL_nil, eL_cons, eL_nil, rn, ev, evT, evs, evo, evq, evi, evC, bnd_ok, calm_ok, opt_some, nxt_nx, nxt_ret, nxt_brk, nxt_ct, ev_ok, fresh, bindT, bindTs, setSl, Option.map_some, Option.map_none, List.getElem?_cons_zero, List.getElem?_cons_succ, List.set_cons_zero, List.set_cons_succ, List.length_cons, List.length_nil, Nat.reduceAdd, Nat.reduceLT, Nat.zero_lt_succ, Nat.reduceSub, if_true, ite_tt, ite_ff, Bool.false_eq_true, if_false, in_str, lt_int, le_int, gt_int, ge_int, eq_int, ne_int, eq_bl, ne_bl, len_lst, len_tup, add_int, sub_int, sub_lst, sub_tup, tru_bl, recvM, n1, n2, beq_self_eq_true, is_cell cell, ap, eq_str hc.ok (show cOk [76] from rfl), eq_str hc.ok (show cOk [78] from rfl)]
            exact .inl ⟨_, .inl rfl, r, q ++ [[78]], _, rfl, by rw [he]; simp, rfl, fin _ (by simp [levP])⟩
          · have n3 : (c == [78]) = false := beq_eq_false_iff_ne.mpr h3
            simp -implicitDefEqProofs only [rns_cons, rns_nil, sL_cons, sL_nil, eL_cons, eL_nil, rn, ev, evT, evs, evo, evq, evi, evC, bnd_ok, calm_ok, opt_some, nxt_nx, nxt_ret, nxt_brk, nxt_ct, ev_ok, fresh, bindT, bindTs, setSl, Option.map_some, Option.map_none, List.getElem?_cons_zero, List.getElem?_cons_succ, List.set_cons_zero, List.set_cons_succ, List.length_cons, List.length_nil, Nat.reduceAdd, Nat.reduceLT, Nat.zero_lt_succ, Nat.reduceSub, if_true, ite_tt, ite_ff, Bool.false_eq_true, if_false, in_str, lt_int, le_int, gt_int, ge_int, eq_int, ne_int, eq_bl, ne_bl, len_lst, len_tup, add_int, sub_int, sub_lst, sub_tup, tru_bl, recvM, n1, n2, n3, is_cell cell, ap, eq_str hc.ok (show cOk [76] from rfl), eq_str hc.ok (show cOk [78] from rfl)]
            exact .inl ⟨_, .inl rfl, r, q ++ [c], _, rfl, by rw [he]; simp, rfl, fin _ (by simp [levP, h1, h2, h3])⟩
  · rintro σ μ' ⟨r, q, a, hr, he, rfl, rfl⟩
    cases r with
    | nil =>
      rw [List.append_nil] at he
      subst he
      have cell : (μ ++ [D.lst ((l.map (levP b)).map .int)])[μ.length]? = some (.lst ((l.map (levP b)).map .int)) := at_app
      simp -implicitDefEqProofs only [rns_cons, rns_nil, sL_cons, sL_nil, eL_cons, eL_nil, rn, ev, evT, evs, evo, evq, evi, evC, bnd_ok, calm_ok, opt_some, nxt_nx, nxt_ret, nxt_brk, nxt_ct, ev_ok, fresh, bindT, bindTs, setSl, Option.map_some, Option.map_none, List.getElem?_cons_zero, List.getElem?_cons_succ, List.set_cons_zero, List.set_cons_succ, List.length_cons, List.length_nil, Nat.reduceAdd, Nat.reduceLT, Nat.zero_lt_succ, Nat.reduceSub, if_true, ite_tt, ite_ff, Bool.false_eq_true, if_false, in_str, lt_int, le_int, gt_int, ge_int, eq_int, ne_int, eq_bl, ne_bl, len_lst, len_tup, add_int, sub_int, sub_lst, sub_tup, tru_bl, recvM, tup_cell cell]
      exact ⟨_, .inl rfl, done_dry hμ (by simp only [dry]; exact drys_map (fun _ => rfl) _)⟩
    | cons c r => cases hr
end Mi
set_option Elab.async false
set_option linter.all false
set_option maxRecDepth 100000
set_option maxHeartbeats 4000000
/-! P17: with_between. -/
namespace Mi
def own (b : Int) : T := if b = 1 then [82] else [76]
def nb (k : T) : Bool := !(k == [66])
def side (o : T) (k : Option T) : T := match k with
  | none => o
  | some x => if x = [76] then [76] else [82]
def btw (o : T) (l : List T) (i : Nat) : T := if l.getD i [] = [66] then (if side o ((l.take i).filter nb).getLast? = side o ((l.drop i).filter nb).head? then side o ((l.take i).filter nb).getLast? else []) else l.getD i []
def betw (b : Int) (l : List T) : List T := (List.range l.length).map (btw (own b) l)
theorem take_one {α : Type} {l : List α} {i : Nat} {x : α} (h : l[i]? = some x) : l.take (i + 1) = l.take i ++ [x] := by
  rw [List.take_add_one, h] <;> rfl
theorem drop_one {α : Type} {l : List α} {i : Nat} {x : α} (h : l[i]? = some x) : l.drop i = x :: l.drop (i + 1) := by
  obtain ⟨hi, e⟩ := List.getElem?_eq_some_iff.mp h
  rw [List.drop_eq_getElem_cons hi, e]
theorem last_nb {l : List T} {p : Nat} {x : T} (h : l[p]? = some x) (hx : nb x = true) : ((l.take (p + 1)).filter nb).getLast? = some x := by
  rw [take_one h, List.filter_append]
  simp [hx]
theorem head_nb {l : List T} {p : Nat} {x : T} (h : l[p]? = some x) (hx : nb x = true) : ((l.drop p).filter nb).head? = some x := by
  rw [drop_one h, List.filter_cons_of_pos hx]
  rfl
theorem take_run {l : List T} {p : Nat} : ∀ {m : Nat}, (∀ j, p ≤ j → j < p + m → l[j]? = some [66]) → (l.take (p + m)).filter nb = (l.take p).filter nb
  | 0, _ => rfl
  | m + 1, h => by
    have := h (p + m) (by omega) (by omega)
    rw [show p + (m + 1) = p + m + 1 from rfl, take_one this, List.filter_append, take_run fun j h1 h2 => h j h1 (by omega)]
    simp [nb]
theorem drop_run {l : List T} : ∀ {m i : Nat}, (∀ j, i ≤ j → j < i + m → l[j]? = some [66]) → (l.drop i).filter nb = (l.drop (i + m)).filter nb
  | 0, _, _ => rfl
  | m + 1, i, h => by
    have := h i (by omega) (by omega)
    rw [drop_one this, List.filter_cons_of_neg (by simp [nb]), drop_run (m := m) (i := i + 1) fun j h1 h2 => h j (by omega) (by omega)]
    congr 2
    omega
theorem getD_of {l : List T} {i : Nat} {x : T} (h : l[i]? = some x) : l.getD i [] = x := by simp [List.getD, h]
theorem btw_non {o : T} {l : List T} {i : Nat} {x : T} (h : l[i]? = some x) (hx : x ≠ [66]) : btw o l i = x := by
  unfold btw
  rw [getD_of h, if_neg hx]
/-- found, when the places ahead of p are done -/
def mix (b : Int) (l : List T) (p : Nat) : List T := (betw b l).take p ++ l.drop p
theorem betw_len (b : Int) (l : List T) : (betw b l).length = l.length := by simp [betw]
theorem betw_at {b : Int} {l : List T} {i : Nat} (h : i < l.length) : (betw b l)[i]? = some (btw (own b) l i) := by
  unfold betw
  rw [List.getElem?_map, List.getElem?_range h]
  rfl
theorem mix_len {b : Int} {l : List T} {p : Nat} (h : p ≤ l.length) : (mix b l p).length = l.length := by
  unfold mix
  rw [List.length_append, List.length_take, List.length_drop, betw_len]
  omega
theorem mix_hi {b : Int} {l : List T} {p i : Nat} (h : p ≤ l.length) (hi : p ≤ i) : (mix b l p)[i]? = l[i]? := by
  unfold mix
  rw [List.getElem?_append_right (by rw [List.length_take, betw_len]; omega), List.length_take, betw_len, List.getElem?_drop]
  congr 1
  omega
theorem mix_lo {b : Int} {l : List T} {p i : Nat} (h : p ≤ l.length) (hi : i < p) : (mix b l p)[i]? = some (btw (own b) l i) := by
  unfold mix
  rw [List.getElem?_append_left (by rw [List.length_take, betw_len]; omega), List.getElem?_take_of_lt hi, betw_at (by omega)]
theorem mix_run {b : Int} {l : List T} {p e : Nat} {v : T} (he : e ≤ l.length) (hp : p ≤ e) (hv : ∀ i, p ≤ i → i < e → btw (own b) l i = v) : (mix b l p).take p ++ List.replicate (e - p) v ++ (mix b l p).drop e = mix b l e := by
  apply List.ext_getElem?
  intro i
  have l1 : ((mix b l p).take p).length = p := by rw [List.length_take, mix_len (by omega)]; omega
  by_cases h1 : i < p
  · rw [List.append_assoc, List.getElem?_append_left (by omega), List.getElem?_take_of_lt h1, mix_lo (by omega) h1, mix_lo he (by omega)]
  · by_cases h2 : i < e
    · rw [List.getElem?_append_left (by rw [List.length_append, l1, List.length_replicate]; omega), List.getElem?_append_right (by omega), l1, List.getElem?_replicate, if_pos (by omega), mix_lo he h2, hv i (by omega) h2]
    · rw [List.getElem?_append_right (by rw [List.length_append, l1, List.length_replicate]; omega), List.length_append, l1, List.length_replicate, List.getElem?_drop, mix_hi he (by omega), mix_hi (by omega) (by omega)]
      congr 1
      omega
theorem mix_step {b : Int} {l : List T} {p : Nat} {x : T} (hx : l[p]? = some x) (hxB : x ≠ [66]) : mix b l p = mix b l (p + 1) := by
  have hp : p < l.length := (List.getElem?_eq_some_iff.mp hx).1
  apply List.ext_getElem?
  intro i
  by_cases h1 : i < p
  · rw [mix_lo (by omega) h1, mix_lo (by omega) (by omega)]
  · by_cases h2 : i = p
    · subst h2
      rw [mix_hi (by omega) (Nat.le_refl _), mix_lo (by omega) (by omega), hx, btw_non hx hxB]
    · rw [mix_hi (by omega) (by omega), mix_hi (by omega) (by omega)]
theorem repL_one {α : Type} (n : Nat) (x : α) : repL n [x] = List.replicate n x := by
  unfold repL
  induction n with
  | zero => rfl
  | succ n ih => rw [List.replicate_succ, List.flatten_cons, ih, List.replicate_succ]; rfl
theorem str_at {l : List T} {i : Nat} {x : T} (h : l[i]? = some x) : atD (l.map D.str) (i : Int) = some (.str x) := atD_some (by rw [List.getElem?_map, h]; rfl)
theorem f_between (n c : Nat) (b : Int) (l : List T) (μ : Mu) (hμ : drys μ = true) (hc : μ[c]? = some (.lst (l.map .str))) (hl : l.length ≤ 80) (hk : KS l) (hb : b = 0 ∨ b = 1) :
    (K (n + 1)).fn 5 [.ref c, .int b] μ = .ok (.lst ((betw b l).map .str)) μ := by
  show fun_ (K n) 8 false b_with_between [.ref c, .int b] μ = _
  refine fun_ret [some (.ref c), some (.int b), none, none, none, none, none, none] rfl ?_
  unfold b_with_between
  have hls : lsofM μ (.ref c) = some (l.map .str) := seqOf_cell hc
  have hown : (if (b == 1) = true then R.ok (D.str [82]) (μ ++ [D.lst (l.map .str)]) else R.ok (D.str [76]) (μ ++ [D.lst (l.map .str)])) = .ok (.str (own b)) (μ ++ [.lst (l.map .str)]) := by
    rcases hb with rfl | rfl <;> rfl
  simp -implicitDefEqProofs only [rns_cons, rns_nil, sL_cons, sL_nil, eL_cons, eL_nil, rn, ev, evT, evs, evo, evq, evi, evC, bnd_ok, calm_ok, opt_some, nxt_nx, nxt_ret, nxt_brk, nxt_ct, ev_ok, fresh, bindT, bindTs, setSl, Option.map_some, Option.map_none, List.getElem?_cons_zero, List.getElem?_cons_succ, List.set_cons_zero, List.set_cons_succ, List.length_cons, List.length_nil, Nat.reduceAdd, Nat.reduceLT, Nat.zero_lt_succ, Nat.reduceSub, if_true, ite_tt, ite_ff, Bool.false_eq_true, if_false, in_str, lt_int, le_int, gt_int, ge_int, eq_int, ne_int, eq_bl, ne_bl, len_lst, len_tup, add_int, sub_int, sub_lst, sub_tup, tru_bl, recvM, hls, hown]
  rw [ev_bnd]
  refine whl_inv (fun k σ μ' => ∃ p e a d, σ = [some (.ref c), some (.int b), some (.ref μ.length), some (.int (p : Nat)), some (.str (own b)), e, a, d] ∧ μ' = μ ++ [.lst ((mix b l p).map .str)] ∧ p ≤ l.length ∧ k = l.length - p ∧ (0 < p → l[p]? = some [66] → ∀ x, l[p - 1]? = some x → x ≠ [66])) ?_ FUEL l.length _ _ (by unfold FUEL; omega) ⟨0, _, _, _, rfl, by simp [mix], by omega, by omega, fun h => absurd h (by omega)⟩
  rintro k σ μ' ⟨p, e, a, d, rfl, rfl, hp, rfl, hcond⟩
  have cell : ∀ p, (μ ++ [D.lst ((mix b l p).map .str)])[μ.length]? = some (.lst ((mix b l p).map .str)) := fun p => at_app
  have ml : ((mix b l p).map D.str).length = l.length := by rw [List.length_map, mix_len hp]
  simp -implicitDefEqProofs only [rns_cons, rns_nil, sL_cons, sL_nil, eL_cons, eL_nil, rn, ev, evT, evs, evo, evq, evi, evC, bnd_ok, calm_ok, opt_some, nxt_nx, nxt_ret, nxt_brk, nxt_ct, ev_ok, fresh, bindT, bindTs, setSl, Option.map_some, Option.map_none, List.getElem?_cons_zero, List.getElem?_cons_succ, List.set_cons_zero, List.set_cons_succ, List.length_cons, List.length_nil, Nat.reduceAdd, Nat.reduceLT, Nat.zero_lt_succ, Nat.reduceSub, if_true, ite_tt, ite_ff, Bool.false_eq_true, if_false, in_str, lt_int, le_int, gt_int, ge_int, eq_int, ne_int, eq_bl, ne_bl, len_lst, len_tup, add_int, sub_int, sub_lst, sub_tup, tru_bl, recvM, len_cell (cell p), ml]
  refine ⟨fun ht => ?_, fun hf => ?_⟩
  · have hpl : p < l.length := by have := of_decide_eq_true ht; omega
    rw [ev_bnd]
    refine Ev.mono (P := fun fl μ' => ∃ e : Nat, fl = .nx [some (.ref c), some (.int b), some (.ref μ.length), some (.int (p : Nat)), some (.str (own b)), some (.int (e : Nat)), a, d] ∧ μ' = μ ++ [.lst ((mix b l p).map .str)] ∧ p ≤ e ∧ e ≤ l.length ∧ (∀ j, p ≤ j → j < e → l[j]? = some [66]) ∧ ∀ x, l[e]? = some x → x ≠ [66])
      (whl_inv (fun k σ μ' => ∃ e : Nat, σ = [some (.ref c), some (.int b), some (.ref μ.length), some (.int (p : Nat)), some (.str (own b)), some (.int (e : Nat)), a, d] ∧ μ' = μ ++ [.lst ((mix b l p).map .str)] ∧ p ≤ e ∧ e ≤ l.length ∧ k = l.length - e ∧ ∀ j, p ≤ j → j < e → l[j]? = some [66]) ?_ FUEL (l.length - p) _ _ (by unfold FUEL; omega) ⟨p, rfl, rfl, Nat.le_refl _, hp, rfl, fun j h1 h2 => by omega⟩) ?_
    · rintro k σ μ' ⟨e, rfl, rfl, hpe, hel, rfl, hrun⟩
      simp -implicitDefEqProofs only [rns_cons, rns_nil, sL_cons, sL_nil, eL_cons, eL_nil, rn, ev, evT, evs, evo, evq, evi, evC, bnd_ok, calm_ok, opt_some, nxt_nx, nxt_ret, nxt_brk, nxt_ct, ev_ok, fresh, bindT, bindTs, setSl, Option.map_some, Option.map_none, List.getElem?_cons_zero, List.getElem?_cons_succ, List.set_cons_zero, List.set_cons_succ, List.length_cons, List.length_nil, Nat.reduceAdd, Nat.reduceLT, Nat.zero_lt_succ, Nat.reduceSub, if_true, ite_tt, ite_ff, Bool.false_eq_true, if_false, in_str, lt_int, le_int, gt_int, ge_int, eq_int, ne_int, eq_bl, ne_bl, len_lst, len_tup, add_int, sub_int, sub_lst, sub_tup, tru_bl, recvM, len_cell (cell p), ml]
      by_cases hE : e < l.length
      · have t1 : decide ((e : Int) < (l.length : Int)) = true := decide_eq_true (by omega)
        have hle : l[e]? = some l[e] := List.getElem?_eq_getElem hE
        have hx : IsK l[e] := hk _ (List.getElem_mem hE)
        have at_ : atD ((mix b l p).map D.str) (e : Int) = some (.str l[e]) := str_at (by rw [mix_hi hp hpe, hle])
        simp -implicitDefEqProofs only [rns_cons, rns_nil, sL_cons, sL_nil, eL_cons, eL_nil, rn, ev, evT, evs, evo, evq, evi, evC, bnd_ok, calm_ok, opt_some, nxt_nx, nxt_ret, nxt_brk, nxt_ct, ev_ok, fresh, bindT, bindTs, setSl, Option.map_some, Option.map_none, List.getElem?_cons_zero, List.getElem?_cons_succ, List.set_cons_zero, List.set_cons_succ, List.length_cons, List.length_nil, Nat.reduceAdd, Nat.reduceLT, Nat.zero_lt_succ, Nat.reduceSub, if_true, ite_tt, ite_ff, Bool.false_eq_true, if_false, in_str, lt_int, le_int, gt_int, ge_int, eq_int, ne_int, eq_bl, ne_bl, len_lst, len_tup, add_int, sub_int, sub_lst, sub_tup, tru_bl, recvM, t1, sub_ref (cell p), at_, eq_str hx.ok (show cOk [66] from rfl)]
        by_cases hB : l[e] = [66]
        · refine ⟨fun _ => ?_, fun h => ?_⟩
          · unfold augM
            simp -implicitDefEqProofs only [rns_cons, rns_nil, sL_cons, sL_nil, eL_cons, eL_nil, rn, ev, evT, evs, evo, evq, evi, evC, bnd_ok, calm_ok, opt_some, nxt_nx, nxt_ret, nxt_brk, nxt_ct, ev_ok, fresh, bindT, bindTs, setSl, Option.map_some, Option.map_none, List.getElem?_cons_zero, List.getElem?_cons_succ, List.set_cons_zero, List.set_cons_succ, List.length_cons, List.length_nil, Nat.reduceAdd, Nat.reduceLT, Nat.zero_lt_succ, Nat.reduceSub, if_true, ite_tt, ite_ff, Bool.false_eq_true, if_false, in_str, lt_int, le_int, gt_int, ge_int, eq_int, ne_int, eq_bl, ne_bl, len_lst, len_tup, add_int, sub_int, sub_lst, sub_tup, tru_bl, recvM]
            refine ⟨_, l.length - (e + 1), .inl rfl, by omega, e + 1, (by first | exact True.intro | rfl | contradiction | assumption), (by first | exact True.intro | rfl | contradiction | assumption), by omega, by omega, rfl, fun j h1 h2 => ?_⟩
            by_cases hj : j < e
            · exact hrun j h1 hj
            · have : j = e := by omega
              subst this
              rw [hle, hB]
          · rw [hB] at h
            simp at h
        · have nB : (l[e] == [66]) = false := beq_eq_false_iff_ne.mpr hB
          refine ⟨fun h => ?_, fun _ => ⟨e, (by first | exact True.intro | rfl | contradiction | assumption), (by first | exact True.intro | rfl | contradiction | assumption), hpe, hel, hrun, fun x hx => ?_⟩⟩
          · rw [nB] at h; cases h
          · rw [hle] at hx
            cases hx
            exact hB
      · have t1 : decide ((e : Int) < (l.length : Int)) = false := decide_eq_false (by omega)
        simp -implicitDefEqProofs only [rns_cons, rns_nil, sL_cons, sL_nil, eL_cons, eL_nil, rn, ev, evT, evs, evo, evq, evi, evC, bnd_ok, calm_ok, opt_some, nxt_nx, nxt_ret, nxt_brk, nxt_ct, ev_ok, fresh, bindT, bindTs, setSl, Option.map_some, Option.map_none, List.getElem?_cons_zero, List.getElem?_cons_succ, List.set_cons_zero, List.set_cons_succ, List.length_cons, List.length_nil, Nat.reduceAdd, Nat.reduceLT, Nat.zero_lt_succ, Nat.reduceSub, if_true, ite_tt, ite_ff, Bool.false_eq_true, if_false, in_str, lt_int, le_int, gt_int, ge_int, eq_int, ne_int, eq_bl, ne_bl, len_lst, len_tup, add_int, sub_int, sub_lst, sub_tup, tru_bl, recvM, t1]
        refine ⟨fun h => (by first | exact True.intro | rfl | contradiction | assumption), fun _ => ⟨e, (by first | exact True.intro | rfl | contradiction | assumption), (by first | exact True.intro | rfl | contradiction | assumption), hpe, hel, hrun, fun x hx => ?_⟩⟩
        rw [List.getElem?_eq_none (by omega)] at hx
        cases hx
    · rintro fl μ' ⟨e, rfl, rfl, hpe, hel, hrun, hend⟩
      simp -implicitDefEqProofs only [rns_cons, rns_nil, sL_cons, sL_nil, eL_cons, eL_nil, rn, ev, evT, evs, evo, evq, evi, evC, bnd_ok, calm_ok, opt_some, nxt_nx, nxt_ret, nxt_brk, nxt_ct, ev_ok, fresh, bindT, bindTs, setSl, Option.map_some, Option.map_none, List.getElem?_cons_zero, List.getElem?_cons_succ, List.set_cons_zero, List.set_cons_succ, List.length_cons, List.length_nil, Nat.reduceAdd, Nat.reduceLT, Nat.zero_lt_succ, Nat.reduceSub, if_true, ite_tt, ite_ff, Bool.false_eq_true, if_false, in_str, lt_int, le_int, gt_int, ge_int, eq_int, ne_int, eq_bl, ne_bl, len_lst, len_tup, add_int, sub_int, sub_lst, sub_tup, tru_bl, recvM, eq_str]
      by_cases hpe2 : p < e
      · have t1 : decide ((p : Int) < (e : Int)) = true := decide_eq_true (by omega)
        -- the side ahead
        have hA : ((if ((p : Int) == 0) = true then R.ok (D.str (own b)) (μ ++ [D.lst ((mix b l p).map .str)]) else ((opt (atD ((mix b l p).map .str) ((p : Int) - 1)) (μ ++ [D.lst ((mix b l p).map .str)])).bnd fun x μ => opt (cmpM .eq μ x (.str [76])) μ).bnd fun t μ => if t = true then R.ok (D.str [76]) μ else R.ok (D.str [82]) μ)) = .ok (.str (side (own b) ((l.take p).filter nb).getLast?)) (μ ++ [D.lst ((mix b l p).map .str)]) := by
          by_cases h0 : p = 0
          · subst h0
            rfl
          · have n0 : ((p : Int) == 0) = false := beq_eq_false_iff_ne.mpr (by omega)
            have hx : l[p - 1]? = some l[p - 1] := List.getElem?_eq_getElem (by omega)
            have hxB := hcond (by omega) (hrun p (Nat.le_refl _) hpe2) _ hx
            have hxK : IsK l[p - 1] := hk _ (List.getElem_mem (by omega))
            have at_ : atD ((mix b l p).map D.str) ((p : Int) - 1) = some (.str l[p - 1]) := by
              rw [show ((p : Int) - 1) = ((p - 1 : Nat) : Int) by omega]
              exact str_at (by rw [mix_lo hp (by omega), btw_non hx hxB])
            have hlast : ((l.take p).filter nb).getLast? = some l[p - 1] := by
              have := last_nb hx (by simp [nb, hxB])
              rwa [show p - 1 + 1 = p by omega] at this
            simp -implicitDefEqProofs only [rns_cons, rns_nil, sL_cons, sL_nil, eL_cons, eL_nil, rn, ev, evT, evs, evo, evq, evi, evC, bnd_ok, calm_ok, opt_some, nxt_nx, nxt_ret, nxt_brk, nxt_ct, ev_ok, fresh, bindT, bindTs, setSl, Option.map_some, Option.map_none, List.getElem?_cons_zero, List.getElem?_cons_succ, List.set_cons_zero, List.set_cons_succ, List.length_cons, List.length_nil, Nat.reduceAdd, Nat.reduceLT, Nat.zero_lt_succ, Nat.reduceSub, if_true, ite_tt, ite_ff, Bool.false_eq_true, if_false, in_str, lt_int, le_int, gt_int, ge_int, eq_int, ne_int, eq_bl, ne_bl, len_lst, len_tup, add_int, sub_int, sub_lst, sub_tup, tru_bl, recvM, n0, at_, eq_str hxK.ok (show cOk [76] from rfl), hlast, side]
            by_cases h7 : l[p - 1] = [76]
            · rw [h7]; rfl
            · have n7 : (l[p - 1] == [76]) = false := beq_eq_false_iff_ne.mpr h7
              rw [if_neg h7, n7]; rfl
        have hBh : ((if ((e : Int) == (l.length : Int)) = true then R.ok (D.str (own b)) (μ ++ [D.lst ((mix b l p).map .str)]) else ((opt (atD ((mix b l p).map .str) (e : Int)) (μ ++ [D.lst ((mix b l p).map .str)])).bnd fun x μ => opt (cmpM .eq μ x (.str [76])) μ).bnd fun t μ => if t = true then R.ok (D.str [76]) μ else R.ok (D.str [82]) μ)) = .ok (.str (side (own b) ((l.drop e).filter nb).head?)) (μ ++ [D.lst ((mix b l p).map .str)]) := by
          by_cases h0 : e = l.length
          · have n0 : ((e : Int) == (l.length : Int)) = true := beq_iff_eq.mpr (by omega)
            rw [n0, h0, List.drop_length]
            rfl
          · have n0 : ((e : Int) == (l.length : Int)) = false := beq_eq_false_iff_ne.mpr (by omega)
            have hx : l[e]? = some l[e] := List.getElem?_eq_getElem (by omega)
            have hxB := hend _ hx
            have hxK : IsK l[e] := hk _ (List.getElem_mem (by omega))
            have at_ : atD ((mix b l p).map D.str) (e : Int) = some (.str l[e]) := str_at (by rw [mix_hi hp hpe, hx])
            simp -implicitDefEqProofs only [rns_cons, rns_nil, sL_cons, sL_nil, eL_cons, eL_nil, rn, ev, evT, evs, evo, evq, evi, evC, bnd_ok, calm_ok, opt_some, nxt_nx, nxt_ret, nxt_brk, nxt_ct, ev_ok, fresh, bindT, bindTs, setSl, Option.map_some, Option.map_none, List.getElem?_cons_zero, List.getElem?_cons_succ, List.set_cons_zero, List.set_cons_succ, List.length_cons, List.length_nil, Nat.reduceAdd, Nat.reduceLT, Nat.zero_lt_succ, Nat.reduceSub, if_true, ite_tt, ite_ff, Bool.false_eq_true, if_false, in_str, lt_int, le_int, gt_int, ge_int, eq_int, ne_int, eq_bl, ne_bl, len_lst, len_tup, add_int, sub_int, sub_lst, sub_tup, tru_bl, recvM, n0, at_, eq_str hxK.ok (show cOk [76] from rfl), head_nb hx (by simp [nb, hxB] : nb l[e] = true), side]
            by_cases h7 : l[e] = [76]
            · rw [h7]; rfl
            · have n7 : (l[e] == [76]) = false := beq_eq_false_iff_ne.mpr h7
              rw [if_neg h7, n7]; rfl
        generalize hsa : side (own b) ((l.take p).filter nb).getLast? = sa at hA
        generalize hsb : side (own b) ((l.drop e).filter nb).head? = sb at hBh
        have okS : ∀ (k : Option T), cOk (side (own b) k) := fun k => by
          unfold side own
          cases k with
          | none => rcases hb with rfl | rfl <;> rfl
          | some x => by_cases h : x = [76] <;> simp [h]
        have oka : cOk sa := hsa ▸ okS _
        have okb : cOk sb := hsb ▸ okS _
        have hv : ∀ i, p ≤ i → i < e → btw (own b) l i = if sa = sb then sa else [] := fun i h1 h2 => by
          have hi := hrun i h1 h2
          unfold btw
          have a1 : (l.take i).filter nb = (l.take p).filter nb := by
            have := take_run (l := l) (p := p) (m := i - p) fun j g1 g2 => hrun j g1 (by omega)
            rwa [show p + (i - p) = i by omega] at this
          have a2 : (l.drop i).filter nb = (l.drop e).filter nb := by
            have := drop_run (l := l) (i := i) (m := e - i) fun j g1 g2 => hrun j (by omega) (by omega)
            rwa [show i + (e - i) = e by omega] at this
          rw [getD_of hi, if_pos rfl, a1, a2, hsa, hsb]
        have hval : (if (sa == sb) = true then R.ok (D.str sa) (μ ++ [D.lst ((mix b l p).map .str)]) else R.ok (D.str []) (μ ++ [D.lst ((mix b l p).map .str)])) = .ok (.str (if sa = sb then sa else [])) (μ ++ [D.lst ((mix b l p).map .str)]) := by
          by_cases h : sa = sb
          · rw [if_pos h, if_pos (by rw [h]; exact beq_self_eq_true _)]
          · rw [if_neg h, if_neg (by rw [beq_eq_false_iff_ne.mpr h]; simp)]
        have hmul : binM .mul (μ ++ [D.lst ((mix b l p).map .str)]) (.lst [.str (if sa = sb then sa else [])]) (.int ((e : Int) - p)) = some (.lst ((List.replicate (e - p) (if sa = sb then sa else [])).map .str)) := by
          have e1 : ((e : Int) - p).toNat = e - p := by omega
          have g1 : decide (-100000 ≤ (e : Int) - p) = true := decide_eq_true (by omega)
          have g2 : decide ((e : Int) - p ≤ 100000) = true := decide_eq_true (by omega)
          simp [binM, lstOf, view, g1, g2, e1, repL_one]
        have hcut : cutM (μ ++ [D.lst ((mix b l p).map .str)]) (.ref μ.length) (p : Int) (e : Int) (.lst ((List.replicate (e - p) (if sa = sb then sa else [])).map .str)) = some (μ ++ [D.lst ((mix b l e).map .str)]) := by
          have g : (decide (0 ≤ (p : Int)) && decide ((p : Int) ≤ e) && decide ((e : Int) ≤ ((mix b l p).map D.str).length) && decide (((mix b l p).map D.str).length + ((List.replicate (e - p) (if sa = sb then sa else [])).map D.str).length ≤ LINE)) = true := by
            rw [ml, List.length_map, List.length_replicate]
            simp only [Bool.and_eq_true, decide_eq_true_eq]
            unfold LINE
            omega
          unfold cutM
          simp only [sameCell, lstOf, view, cell p, g, if_true, Bool.false_eq_true, if_false, set_app]
          rw [← mix_run hel hpe hv]
          simp [List.map_append, List.map_take, List.map_drop]
        simp -implicitDefEqProofs only [rns_cons, rns_nil, sL_cons, sL_nil, eL_cons, eL_nil, rn, ev, evT, evs, evo, evq, evi, evC, bnd_ok, calm_ok, opt_some, nxt_nx, nxt_ret, nxt_brk, nxt_ct, ev_ok, fresh, bindT, bindTs, setSl, Option.map_some, Option.map_none, List.getElem?_cons_zero, List.getElem?_cons_succ, List.set_cons_zero, List.set_cons_succ, List.length_cons, List.length_nil, Nat.reduceAdd, Nat.reduceLT, Nat.zero_lt_succ, Nat.reduceSub, if_true, ite_tt, ite_ff, Bool.false_eq_true, if_false, in_str, lt_int, le_int, gt_int, ge_int, eq_int, ne_int, eq_bl, ne_bl, len_lst, len_tup, add_int, sub_int, sub_lst, sub_tup, tru_bl, recvM, t1, hA, len_cell (cell p), ml, sub_ref (cell p), hBh, eq_str oka okb, hval, hmul, hcut]
        refine ⟨_, l.length - e, .inl rfl, by omega, e, _, _, _, (by first | exact True.intro | rfl | contradiction | assumption), (by first | exact True.intro | rfl | contradiction | assumption), hel, rfl, fun h1 h2 x hx => ?_⟩
        exact fun _ => hend _ h2 rfl
      · have hpe3 : p = e := by omega
        subst hpe3
        have t1 : decide ((p : Int) < (p : Int)) = false := decide_eq_false (by omega)
        have hx : l[p]? = some l[p] := List.getElem?_eq_getElem hpl
        have hxB := hend _ hx
        unfold augM
        simp -implicitDefEqProofs only [rns_cons, rns_nil, sL_cons, sL_nil, eL_cons, eL_nil, rn, ev, evT, evs, evo, evq, evi, evC, bnd_ok, calm_ok, opt_some, nxt_nx, nxt_ret, nxt_brk, nxt_ct, ev_ok, fresh, bindT, bindTs, setSl, Option.map_some, Option.map_none, List.getElem?_cons_zero, List.getElem?_cons_succ, List.set_cons_zero, List.set_cons_succ, List.length_cons, List.length_nil, Nat.reduceAdd, Nat.reduceLT, Nat.zero_lt_succ, Nat.reduceSub, if_true, ite_tt, ite_ff, Bool.false_eq_true, if_false, in_str, lt_int, le_int, gt_int, ge_int, eq_int, ne_int, eq_bl, ne_bl, len_lst, len_tup, add_int, sub_int, sub_lst, sub_tup, tru_bl, recvM, t1]
        refine ⟨_, l.length - (p + 1), .inl rfl, by omega, p + 1, _, _, _, (by first | exact True.intro | rfl | contradiction | assumption), ?_, by omega, rfl, fun h1 h2 x hx2 => ?_⟩
        · rw [mix_step hx hxB]
        · rw [show p + 1 - 1 = p by omega, hx] at hx2
          cases hx2
          exact hxB
  · have hpl : p = l.length := by have := of_decide_eq_false hf; omega
    subst hpl
    have e1 : mix b l l.length = betw b l := by
      unfold mix
      rw [List.drop_length, List.append_nil, List.take_of_length_le (by rw [betw_len]; exact Nat.le_refl _)]
    rw [e1]
    exact ⟨_, .inl rfl, done_lst hμ rfl (drys_map (fun _ => rfl) _)⟩
end Mi
set_option Elab.async false
set_option linter.all false
set_option maxRecDepth 100000
set_option maxHeartbeats 4000000
/-! P18: plain_kinds, levels_of. -/
namespace Mi
def lkk (c : Nat) (bt : Bool) : T := if digs.contains c || (sgs.contains c && bt) then [78] else if lefts.contains c then [76] else if rights.contains c then [82] else [66]
def btP (t : T) (k : Nat) : Bool := decide (0 < k) && decide (k + 1 < t.length) && digs.contains (t.getD (k - 1) 0) && digs.contains (t.getD (k + 1) 0)
/-- the kind of the sign at k, by the law -/
def lk (t : T) (k : Nat) : T := lkk (t.getD k 0) (btP t k)
def lks (t : T) : List T := (List.range t.length).map (lk t)
theorem al_lk : ∀ c ∈ [97, 98, 65, 66, 49, 50, 46, 32, 40, 41, 44, 45], ∀ bt, lkk c bt = if kindC c = [83] then (if bt = true then [78] else [66]) else kindC c := by decide
theorem al_N : ∀ c ∈ [97, 98, 65, 66, 49, 50, 46, 32, 40, 41, 44, 45], (kindC c = [78] ↔ digs.contains c = true) ∧ (kindC c = [83] → digs.contains c = false) ∧ ∀ bt, (lkk c bt = [78] ↔ (digs.contains c = true ∨ (kindC c = [83] ∧ bt = true))) := by decide
theorem lkk_is (c : Nat) (bt : Bool) : IsK (lkk c bt) := by
  unfold lkk IsK
  split
  · simp
  split
  · simp
  split <;> simp
theorem lkk_non (c : Nat) (bt : Bool) : lkk c bt = [76] ∨ lkk c bt = [82] ∨ lkk c bt = [78] ∨ lkk c bt = [66] := by
  unfold lkk
  split
  · simp
  split
  · simp
  split <;> simp
theorem lks_len (t : T) : (lks t).length = t.length := by simp [lks]
theorem lks_at {t : T} {k : Nat} (h : k < t.length) : (lks t)[k]? = some (lk t k) := by
  unfold lks
  rw [List.getElem?_map, List.getElem?_range h]
  rfl
theorem Tx.at_ {t : T} (h : Tx t) {k : Nat} (hk : k < t.length) : t[k] ∈ [97, 98, 65, 66, 49, 50, 46, 32, 40, 41, 44, 45] := h.al _ (List.getElem_mem hk)
theorem getD_at {t : T} {k : Nat} (hk : k < t.length) : t.getD k 0 = t[k] := by simp [List.getD, List.getElem?_eq_getElem hk]
def upd (o k : T) : T := if k = [76] ∨ k = [82] then k else o
def lastP (o : T) (l : List T) : T := l.foldl upd o
def wkAt (o : T) (l : List T) (k : Nat) : T := if l.getD k [] = [78] ∧ lastP o (l.take (k + 1)) = [76] then [76] else l.getD k []
def wk (o : T) (l : List T) : List T := (List.range l.length).map (wkAt o l)
theorem wk_len (o : T) (l : List T) : (wk o l).length = l.length := by simp [wk]
theorem wk_at {o : T} {l : List T} {k : Nat} (h : k < l.length) : (wk o l)[k]? = some (wkAt o l k) := by
  unfold wk
  rw [List.getElem?_map, List.getElem?_range h]
  rfl
theorem last_step {o : T} {l : List T} {k : Nat} {x : T} (h : l[k]? = some x) : lastP o (l.take (k + 1)) = upd (lastP o (l.take k)) x := by
  unfold lastP
  rw [take_one h, List.foldl_append]
  rfl
theorem KS_lks (t : T) : KS (lks t) := fun k hk => by
  obtain ⟨i, _, rfl⟩ := List.mem_map.mp hk
  exact lkk_is _ _
theorem KS_wk {o : T} {l : List T} (h : KS l) : KS (wk o l) := fun k hk => by
  obtain ⟨i, hi, rfl⟩ := List.mem_map.mp hk
  have hi := List.mem_range.mp hi
  unfold wkAt
  split
  · exact .inl rfl
  · rw [getD_of (List.getElem?_eq_getElem hi)]
    exact h _ (List.getElem_mem hi)
theorem map_mx {l m : List T} {p : Nat} : (mx l m p).map D.str = mx (l.map .str) (m.map .str) p := by simp [mx]
theorem own_ok {b : Int} (hb : b = 0 ∨ b = 1) : cOk (own b) := by rcases hb with rfl | rfl <;> rfl
theorem upd_ok {o k : T} (h1 : cOk o) (h2 : cOk k) : cOk (upd o k) := by
  unfold upd
  split <;> assumption
theorem last_ok {o : T} : ∀ {l : List T}, cOk o → KS l → cOk (lastP o l)
  | [], h, _ => h
  | k :: l, h, hk => by
    show cOk (lastP (upd o k) l)
    exact last_ok (upd_ok h (hk k List.mem_cons_self).ok) fun x hx => hk x (List.mem_cons_of_mem _ hx)
theorem f_plain (n : Nat) (t : T) (b : Int) (μ : Mu) (hμ : drys μ = true) (ht : Tx t) (hb : b = 0 ∨ b = 1) : (K (n + 2)).fn 4 [.str t, .int b] μ = .ok (.lst ((betw b (wk (own b) (lks t))).map .str)) μ := by
  show fun_ (K (n + 1)) 8 false b_plain_kinds [.str t, .int b] μ = _
  refine fun_ret [some (.str t), some (.int b), none, none, none, none, none, none] rfl ?_
  unfold b_plain_kinds
  simp -implicitDefEqProofs only [rns_cons, rns_nil, sL_cons, sL_nil, eL_cons, eL_nil, rn, ev, evT, evs, evo, evq, evi, evC, bnd_ok, calm_ok, opt_some, nxt_nx, nxt_ret, nxt_brk, nxt_ct, ev_ok, fresh, bindT, bindTs, setSl, Option.map_some, Option.map_none, List.getElem?_cons_zero, List.getElem?_cons_succ, List.set_cons_zero, List.set_cons_succ, List.length_cons, List.length_nil, Nat.reduceAdd, Nat.reduceLT, Nat.zero_lt_succ, Nat.reduceSub, if_true, ite_tt, ite_ff, Bool.false_eq_true, if_false, in_str, lt_int, le_int, gt_int, ge_int, eq_int, ne_int, eq_bl, ne_bl, len_lst, len_tup, add_int, sub_int, sub_lst, sub_tup, tru_bl, recvM, seq_str ht.line]
  rw [ev_bnd, ev_bnd, ev_bnd, ev_calm]
  refine ev_mapR (fun c => .str (kindC c)) rfl (fun c _ => ?_) ?_
  · rw [turnM_1 (by simp)]
    simp -implicitDefEqProofs only [rns_cons, rns_nil, sL_cons, sL_nil, eL_cons, eL_nil, rn, ev, evT, evs, evo, evq, evi, evC, bnd_ok, calm_ok, opt_some, nxt_nx, nxt_ret, nxt_brk, nxt_ct, ev_ok, fresh, bindT, bindTs, setSl, Option.map_some, Option.map_none, List.getElem?_cons_zero, List.getElem?_cons_succ, List.set_cons_zero, List.set_cons_succ, List.length_cons, List.length_nil, Nat.reduceAdd, Nat.reduceLT, Nat.zero_lt_succ, Nat.reduceSub, if_true, ite_tt, ite_ff, Bool.false_eq_true, if_false, in_str, lt_int, le_int, gt_int, ge_int, eq_int, ne_int, eq_bl, ne_bl, len_lst, len_tup, add_int, sub_int, sub_lst, sub_tup, tru_bl, recvM, f_kind n c μ hμ]
  have l0 : (t.map fun c => D.str (kindC c)) = (t.map kindC).map .str := by rw [List.map_map]; rfl
  rw [l0]
  have len0 : (t.map kindC).length = t.length := List.length_map ..
  have AB : (lks t).length = (t.map kindC).length := by rw [lks_len, len0]
  have k0 : ∀ {i : Nat} (h : i < t.length), (t.map kindC)[i]? = some (kindC t[i]) := fun {i} h => by rw [List.getElem?_map, List.getElem?_eq_getElem h]; rfl
  have cell : ∀ l : List T, (μ ++ [D.lst (l.map .str)])[μ.length]? = some (.lst (l.map .str)) := fun l => at_app
  have ln : ((t.map kindC).map D.str).length = t.length := by simp
  have hn : t.length < 1000000 := by have := ht.len; omega
  simp -implicitDefEqProofs only [rns_cons, rns_nil, sL_cons, sL_nil, eL_cons, eL_nil, rn, ev, evT, evs, evo, evq, evi, evC, bnd_ok, calm_ok, opt_some, nxt_nx, nxt_ret, nxt_brk, nxt_ct, ev_ok, fresh, bindT, bindTs, setSl, Option.map_some, Option.map_none, List.getElem?_cons_zero, List.getElem?_cons_succ, List.set_cons_zero, List.set_cons_succ, List.length_cons, List.length_nil, Nat.reduceAdd, Nat.reduceLT, Nat.zero_lt_succ, Nat.reduceSub, if_true, ite_tt, ite_ff, Bool.false_eq_true, if_false, in_str, lt_int, le_int, gt_int, ge_int, eq_int, ne_int, eq_bl, ne_bl, len_lst, len_tup, add_int, sub_int, sub_lst, sub_tup, tru_bl, recvM, len_cell (cell (t.map kindC)), ln, rng_nat hn]
  rw [ev_bnd]
  refine for_inv (fun p σ μ' => ∃ a e, σ = [some (.str t), some (.int b), some (.ref μ.length), a, none, none, none, e] ∧ μ' = μ ++ [.lst ((mx (lks t) (t.map kindC) p).map .str)]) ⟨_, _, rfl, by rw [mx_0]⟩ (fun _ _ _ _ => rfl) ?_ ?_
  · rintro p x σ μ' hx ⟨a, e, rfl, rfl⟩
    obtain ⟨hp, rfl⟩ := rng_at hx
    rw [turn_1 (by simp)]
    have at_ : ∀ {i : Nat} {y : T}, (mx (lks t) (t.map kindC) p)[i]? = some y → atD ((mx (lks t) (t.map kindC) p).map D.str) (i : Int) = some (.str y) := fun h => str_at h
    have hpp : (mx (lks t) (t.map kindC) p)[p]? = some (kindC t[p]) := by rw [mx_hi AB (by omega) (Nat.le_refl _), k0 hp]
    have ml : ((mx (lks t) (t.map kindC) p).map D.str).length = t.length := by rw [List.length_map, mx_len AB (by omega), len0]
    simp -implicitDefEqProofs only [rns_cons, rns_nil, sL_cons, sL_nil, eL_cons, eL_nil, rn, ev, evT, evs, evo, evq, evi, evC, bnd_ok, calm_ok, opt_some, nxt_nx, nxt_ret, nxt_brk, nxt_ct, ev_ok, fresh, bindT, bindTs, setSl, Option.map_some, Option.map_none, List.getElem?_cons_zero, List.getElem?_cons_succ, List.set_cons_zero, List.set_cons_succ, List.length_cons, List.length_nil, Nat.reduceAdd, Nat.reduceLT, Nat.zero_lt_succ, Nat.reduceSub, if_true, ite_tt, ite_ff, Bool.false_eq_true, if_false, in_str, lt_int, le_int, gt_int, ge_int, eq_int, ne_int, eq_bl, ne_bl, len_lst, len_tup, add_int, sub_int, sub_lst, sub_tup, tru_bl, recvM, sub_ref (cell (mx (lks t) (t.map kindC) p)), at_ hpp, eq_str (kindC_is t[p]).ok (show cOk [83] from rfl), len_cell (cell (mx (lks t) (t.map kindC) p)), ml]
    have hal := ht.at_ hp
    have hlk : lk t p = lkk t[p] (btP t p) := by unfold lk; rw [getD_at hp]
    by_cases hS : kindC t[p] = [83]
    · have q1 : (kindC t[p] == [83]) = true := by rw [hS]; rfl
      have hset : ∀ v : T, lk t p = v → ((mx (lks t) (t.map kindC) p).map D.str).set p (.str v) = (mx (lks t) (t.map kindC) (p + 1)).map D.str := fun v hv => by
        rw [set_map, mx_set AB (by omega) (by rw [lks_at hp, hv])]
      have hst := fun v : D => set_cell (v := v) (cell (mx (lks t) (t.map kindC) p)) (i := p) (by rw [ml]; exact hp)
      have hL : ∀ bt, btP t p = bt → lk t p = if bt = true then [78] else [66] := fun bt hbt => by
        rw [hlk, al_lk _ hal, if_pos hS, hbt]
      simp -implicitDefEqProofs only [rns_cons, rns_nil, sL_cons, sL_nil, eL_cons, eL_nil, rn, ev, evT, evs, evo, evq, evi, evC, bnd_ok, calm_ok, opt_some, nxt_nx, nxt_ret, nxt_brk, nxt_ct, ev_ok, fresh, bindT, bindTs, setSl, Option.map_some, Option.map_none, List.getElem?_cons_zero, List.getElem?_cons_succ, List.set_cons_zero, List.set_cons_succ, List.length_cons, List.length_nil, Nat.reduceAdd, Nat.reduceLT, Nat.zero_lt_succ, Nat.reduceSub, if_true, ite_tt, ite_ff, Bool.false_eq_true, if_false, in_str, lt_int, le_int, gt_int, ge_int, eq_int, ne_int, eq_bl, ne_bl, len_lst, len_tup, add_int, sub_int, sub_lst, sub_tup, tru_bl, recvM, q1]
      by_cases h0 : 0 < p ∧ p + 1 < t.length
      · have t0 : decide ((0 : Int) < (p : Int)) = true := decide_eq_true (by omega)
        have t1 : decide ((p : Int) < (t.length : Int) - 1) = true := decide_eq_true (by omega)
        have a1 : atD ((mx (lks t) (t.map kindC) p).map D.str) ((p : Int) - 1) = some (.str (lk t (p - 1))) := by
          rw [show ((p : Int) - 1) = ((p - 1 : Nat) : Int) by omega]
          exact at_ (by rw [mx_lo AB (by omega) (by omega), lks_at (by omega)])
        have a2 : atD ((mx (lks t) (t.map kindC) p).map D.str) ((p : Int) + 1) = some (.str (kindC t[p + 1])) := by
          rw [show ((p : Int) + 1) = ((p + 1 : Nat) : Int) by omega]
          exact at_ (by rw [mx_hi AB (by omega) (by omega), k0 h0.2])
        have bt : btP t p = (digs.contains t[p - 1] && digs.contains t[p + 1]) := by
          unfold btP
          rw [decide_eq_true h0.1, decide_eq_true h0.2, getD_at (by omega), getD_at h0.2]
          rfl
        have f1 := al_N _ (ht.at_ h0.2)
        have f0 := al_N _ (ht.at_ (show p - 1 < t.length by omega))
        have hm : btP t (p - 1) = false := by
          unfold btP
          rw [show p - 1 + 1 = p by omega, getD_at hp, (al_N _ hal).2.1 hS, Bool.and_false]
        have hk1 : lk t (p - 1) = lkk t[p - 1] false := by unfold lk; rw [getD_at (by omega), hm]
        have ok1 : cOk (lk t (p - 1)) := (lkk_is _ _).ok
        simp -implicitDefEqProofs only [rns_cons, rns_nil, sL_cons, sL_nil, eL_cons, eL_nil, rn, ev, evT, evs, evo, evq, evi, evC, bnd_ok, calm_ok, opt_some, nxt_nx, nxt_ret, nxt_brk, nxt_ct, ev_ok, fresh, bindT, bindTs, setSl, Option.map_some, Option.map_none, List.getElem?_cons_zero, List.getElem?_cons_succ, List.set_cons_zero, List.set_cons_succ, List.length_cons, List.length_nil, Nat.reduceAdd, Nat.reduceLT, Nat.zero_lt_succ, Nat.reduceSub, if_true, ite_tt, ite_ff, Bool.false_eq_true, if_false, in_str, lt_int, le_int, gt_int, ge_int, eq_int, ne_int, eq_bl, ne_bl, len_lst, len_tup, add_int, sub_int, sub_lst, sub_tup, tru_bl, recvM, t0, t1, sub_ref (cell (mx (lks t) (t.map kindC) p)), a1, a2, eq_str ok1 (kindC_is t[p + 1]).ok, eq_str (kindC_is t[p + 1]).ok (show cOk [78] from rfl)]
        by_cases e1 : lk t (p - 1) = kindC t[p + 1]
        · have g1 : (lk t (p - 1) == kindC t[p + 1]) = true := beq_iff_eq.mpr e1
          by_cases e2 : kindC t[p + 1] = [78]
          · have g2 : (kindC t[p + 1] == [78]) = true := beq_iff_eq.mpr e2
            have hb2 : btP t p = true := by
              have d2 := f1.1.mp e2
              have d1 := (f0.2.2 false).mp (by rw [← hk1, e1, e2])
              rw [bt, d2, Bool.and_true]
              rcases d1 with d1 | d1
              · exact d1
              · cases d1.2
            simp -implicitDefEqProofs only [rns_cons, rns_nil, sL_cons, sL_nil, eL_cons, eL_nil, rn, ev, evT, evs, evo, evq, evi, evC, bnd_ok, calm_ok, opt_some, nxt_nx, nxt_ret, nxt_brk, nxt_ct, ev_ok, fresh, bindT, bindTs, setSl, Option.map_some, Option.map_none, List.getElem?_cons_zero, List.getElem?_cons_succ, List.set_cons_zero, List.set_cons_succ, List.length_cons, List.length_nil, Nat.reduceAdd, Nat.reduceLT, Nat.zero_lt_succ, Nat.reduceSub, if_true, ite_tt, ite_ff, Bool.false_eq_true, if_false, in_str, lt_int, le_int, gt_int, ge_int, eq_int, ne_int, eq_bl, ne_bl, len_lst, len_tup, add_int, sub_int, sub_lst, sub_tup, tru_bl, recvM, g1, g2, hst, hset [78] (by rw [hL _ hb2]; rfl), set_app]
            exact ⟨_, .inl rfl, _, _, (by first | exact True.intro | rfl | contradiction | assumption), (by first | exact True.intro | rfl | contradiction | assumption)⟩
          · have g2 : (kindC t[p + 1] == [78]) = false := beq_eq_false_iff_ne.mpr e2
            have hb2 : btP t p = false := by
              rw [bt]
              cases q : digs.contains t[p + 1] with
              | false => rw [Bool.and_false]
              | true => exact absurd (f1.1.mpr q) e2
            simp -implicitDefEqProofs only [rns_cons, rns_nil, sL_cons, sL_nil, eL_cons, eL_nil, rn, ev, evT, evs, evo, evq, evi, evC, bnd_ok, calm_ok, opt_some, nxt_nx, nxt_ret, nxt_brk, nxt_ct, ev_ok, fresh, bindT, bindTs, setSl, Option.map_some, Option.map_none, List.getElem?_cons_zero, List.getElem?_cons_succ, List.set_cons_zero, List.set_cons_succ, List.length_cons, List.length_nil, Nat.reduceAdd, Nat.reduceLT, Nat.zero_lt_succ, Nat.reduceSub, if_true, ite_tt, ite_ff, Bool.false_eq_true, if_false, in_str, lt_int, le_int, gt_int, ge_int, eq_int, ne_int, eq_bl, ne_bl, len_lst, len_tup, add_int, sub_int, sub_lst, sub_tup, tru_bl, recvM, g1, g2, hst, hset [66] (by rw [hL _ hb2]; rfl), set_app]
            exact ⟨_, .inl rfl, _, _, (by first | exact True.intro | rfl | contradiction | assumption), (by first | exact True.intro | rfl | contradiction | assumption)⟩
        · have g1 : (lk t (p - 1) == kindC t[p + 1]) = false := beq_eq_false_iff_ne.mpr e1
          have hb2 : btP t p = false := by
            rw [bt]
            cases q1 : digs.contains t[p - 1] with
            | false => rw [Bool.false_and]
            | true =>
              cases q : digs.contains t[p + 1] with
              | false => rw [Bool.and_false]
              | true => exact absurd (by rw [hk1, (f0.2.2 false).mpr (.inl q1), f1.1.mpr q]) e1
          simp -implicitDefEqProofs only [rns_cons, rns_nil, sL_cons, sL_nil, eL_cons, eL_nil, rn, ev, evT, evs, evo, evq, evi, evC, bnd_ok, calm_ok, opt_some, nxt_nx, nxt_ret, nxt_brk, nxt_ct, ev_ok, fresh, bindT, bindTs, setSl, Option.map_some, Option.map_none, List.getElem?_cons_zero, List.getElem?_cons_succ, List.set_cons_zero, List.set_cons_succ, List.length_cons, List.length_nil, Nat.reduceAdd, Nat.reduceLT, Nat.zero_lt_succ, Nat.reduceSub, if_true, ite_tt, ite_ff, Bool.false_eq_true, if_false, in_str, lt_int, le_int, gt_int, ge_int, eq_int, ne_int, eq_bl, ne_bl, len_lst, len_tup, add_int, sub_int, sub_lst, sub_tup, tru_bl, recvM, g1, hst, hset [66] (by rw [hL _ hb2]; rfl), set_app]
          exact ⟨_, .inl rfl, _, _, (by first | exact True.intro | rfl | contradiction | assumption), (by first | exact True.intro | rfl | contradiction | assumption)⟩
      · have hb2 : btP t p = false := by
          unfold btP
          by_cases z : 0 < p
          · rw [decide_eq_false (show ¬ p + 1 < t.length from fun y => h0 ⟨z, y⟩), Bool.and_false]
            rfl
          · rw [decide_eq_false z]
            rfl
        by_cases z : 0 < p
        · have t0 : decide ((0 : Int) < (p : Int)) = true := decide_eq_true (by omega)
          have t1 : decide ((p : Int) < (t.length : Int) - 1) = false := decide_eq_false (fun y => h0 ⟨z, by omega⟩)
          simp -implicitDefEqProofs only [rns_cons, rns_nil, sL_cons, sL_nil, eL_cons, eL_nil, rn, ev, evT, evs, evo, evq, evi, evC, bnd_ok, calm_ok, opt_some, nxt_nx, nxt_ret, nxt_brk, nxt_ct, ev_ok, fresh, bindT, bindTs, setSl, Option.map_some, Option.map_none, List.getElem?_cons_zero, List.getElem?_cons_succ, List.set_cons_zero, List.set_cons_succ, List.length_cons, List.length_nil, Nat.reduceAdd, Nat.reduceLT, Nat.zero_lt_succ, Nat.reduceSub, if_true, ite_tt, ite_ff, Bool.false_eq_true, if_false, in_str, lt_int, le_int, gt_int, ge_int, eq_int, ne_int, eq_bl, ne_bl, len_lst, len_tup, add_int, sub_int, sub_lst, sub_tup, tru_bl, recvM, t0, t1, hst, hset [66] (by rw [hL _ hb2]; rfl), set_app]
          exact ⟨_, .inl rfl, _, _, (by first | exact True.intro | rfl | contradiction | assumption), (by first | exact True.intro | rfl | contradiction | assumption)⟩
        · have t0 : decide ((0 : Int) < (p : Int)) = false := decide_eq_false (by omega)
          simp -implicitDefEqProofs only [rns_cons, rns_nil, sL_cons, sL_nil, eL_cons, eL_nil, rn, ev, evT, evs, evo, evq, evi, evC, bnd_ok, calm_ok, opt_some, nxt_nx, nxt_ret, nxt_brk, nxt_ct, ev_ok, fresh, bindT, bindTs, setSl, Option.map_some, Option.map_none, List.getElem?_cons_zero, List.getElem?_cons_succ, List.set_cons_zero, List.set_cons_succ, List.length_cons, List.length_nil, Nat.reduceAdd, Nat.reduceLT, Nat.zero_lt_succ, Nat.reduceSub, if_true, ite_tt, ite_ff, Bool.false_eq_true, if_false, in_str, lt_int, le_int, gt_int, ge_int, eq_int, ne_int, eq_bl, ne_bl, len_lst, len_tup, add_int, sub_int, sub_lst, sub_tup, tru_bl, recvM, t0, hst, hset [66] (by rw [hL _ hb2]; rfl), set_app]
          exact ⟨_, .inl rfl, _, _, (by first | exact True.intro | rfl | contradiction | assumption), (by first | exact True.intro | rfl | contradiction | assumption)⟩
    · have q1 : (kindC t[p] == [83]) = false := beq_eq_false_iff_ne.mpr hS
      simp -implicitDefEqProofs only [rns_cons, rns_nil, sL_cons, sL_nil, eL_cons, eL_nil, rn, ev, evT, evs, evo, evq, evi, evC, bnd_ok, calm_ok, opt_some, nxt_nx, nxt_ret, nxt_brk, nxt_ct, ev_ok, fresh, bindT, bindTs, setSl, Option.map_some, Option.map_none, List.getElem?_cons_zero, List.getElem?_cons_succ, List.set_cons_zero, List.set_cons_succ, List.length_cons, List.length_nil, Nat.reduceAdd, Nat.reduceLT, Nat.zero_lt_succ, Nat.reduceSub, if_true, ite_tt, ite_ff, Bool.false_eq_true, if_false, in_str, lt_int, le_int, gt_int, ge_int, eq_int, ne_int, eq_bl, ne_bl, len_lst, len_tup, add_int, sub_int, sub_lst, sub_tup, tru_bl, recvM, q1]
      refine ⟨_, .inl rfl, _, _, rfl, ?_⟩
      rw [mx_keep AB (by omega) (by rw [lks_at hp, k0 hp, hlk, al_lk _ hal, if_neg hS])]
  · rintro σ μ' ⟨a, e, rfl, rfl⟩
    have e1 : mx (lks t) (t.map kindC) ((List.range t.length).map fun k => D.int ((k : Nat) : Int)).length = lks t := by
      rw [List.length_map, List.length_range, ← len0, mx_end AB]
    rw [e1]
    have hown : (if (b == 1) = true then R.ok (D.str [82]) (μ ++ [D.lst ((lks t).map .str)]) else R.ok (D.str [76]) (μ ++ [D.lst ((lks t).map .str)])) = .ok (.str (own b)) (μ ++ [.lst ((lks t).map .str)]) := by
      rcases hb with rfl | rfl <;> rfl
    have hls : lsofM (μ ++ [D.lst ((lks t).map .str)]) (.ref μ.length) = some ((lks t).map .str) := seqOf_cell (cell _)
    simp -implicitDefEqProofs only [rns_cons, rns_nil, sL_cons, sL_nil, eL_cons, eL_nil, rn, ev, evT, evs, evo, evq, evi, evC, bnd_ok, calm_ok, opt_some, nxt_nx, nxt_ret, nxt_brk, nxt_ct, ev_ok, fresh, bindT, bindTs, setSl, Option.map_some, Option.map_none, List.getElem?_cons_zero, List.getElem?_cons_succ, List.set_cons_zero, List.set_cons_succ, List.length_cons, List.length_nil, Nat.reduceAdd, Nat.reduceLT, Nat.zero_lt_succ, Nat.reduceSub, if_true, ite_tt, ite_ff, Bool.false_eq_true, if_false, in_str, lt_int, le_int, gt_int, ge_int, eq_int, ne_int, eq_bl, ne_bl, len_lst, len_tup, add_int, sub_int, sub_lst, sub_tup, tru_bl, recvM, hown, hls, seq_lst]
    rw [ev_bnd]
    have WL : (wk (own b) (lks t)).length = (lks t).length := wk_len _ _
    refine for_inv (fun p σ μ' => ∃ a e g, σ = [some (.str t), some (.int b), some (.ref μ.length), a, some (.str (lastP (own b) ((lks t).take p))), g, none, e] ∧ μ' = μ ++ [.lst ((mx (wk (own b) (lks t)) (lks t) p).map .str)]) ⟨_, _, _, rfl, by rw [mx_0]⟩ (fun _ _ _ _ => rfl) ?_ ?_
    · rintro p x σ μ' hx ⟨a, e, g, rfl, rfl⟩
      obtain ⟨y, hy, rfl⟩ := enum_at hx
      rw [List.getElem?_map] at hy
      obtain ⟨k, hk, rfl⟩ := Option.map_eq_some_iff.mp hy
      have hp : p < (lks t).length := (List.getElem?_eq_some_iff.mp hk).1
      rw [turn_2 (by simp) (by simp), Nat.zero_add]
      have hkK : IsK k := KS_lks t k (List.mem_of_getElem? hk)
      have hlo : cOk (lastP (own b) ((lks t).take p)) := last_ok (own_ok hb) fun z hz => KS_lks t z (List.mem_of_mem_take hz)
      have ml : ((mx (wk (own b) (lks t)) (lks t) p).map D.str).length = (lks t).length := by rw [List.length_map, mx_len WL (by omega)]
      have hst := fun v : D => set_cell (v := v) (cell (mx (wk (own b) (lks t)) (lks t) p)) (i := p) (by rw [ml]; exact hp)
      have hu : (if (decide (k = [76]) || decide (k = [82])) = true then R.ok (D.str k) (μ ++ [D.lst ((mx (wk (own b) (lks t)) (lks t) p).map .str)]) else R.ok (D.str (lastP (own b) ((lks t).take p))) (μ ++ [D.lst ((mx (wk (own b) (lks t)) (lks t) p).map .str)])) = .ok (.str (lastP (own b) ((lks t).take (p + 1)))) (μ ++ [D.lst ((mx (wk (own b) (lks t)) (lks t) p).map .str)]) := by
        rw [last_step hk]
        unfold upd
        by_cases z : k = [76] ∨ k = [82]
        · rw [if_pos z, if_pos (by simpa using z)]
        · rw [if_neg z, if_neg (by simpa using z)]
      have hlo2 : cOk (lastP (own b) ((lks t).take (p + 1))) := last_ok (own_ok hb) fun z hz => KS_lks t z (List.mem_of_mem_take hz)
      simp -implicitDefEqProofs only [rns_cons, rns_nil, sL_cons, sL_nil, eL_cons, eL_nil, rn, ev, evT, evs, evo, evq, evi, evC, bnd_ok, calm_ok, opt_some, nxt_nx, nxt_ret, nxt_brk, nxt_ct, ev_ok, fresh, bindT, bindTs, setSl, Option.map_some, Option.map_none, List.getElem?_cons_zero, List.getElem?_cons_succ, List.set_cons_zero, List.set_cons_succ, List.length_cons, List.length_nil, Nat.reduceAdd, Nat.reduceLT, Nat.zero_lt_succ, Nat.reduceSub, if_true, ite_tt, ite_ff, Bool.false_eq_true, if_false, in_str, lt_int, le_int, gt_int, ge_int, eq_int, ne_int, eq_bl, ne_bl, len_lst, len_tup, add_int, sub_int, sub_lst, sub_tup, tru_bl, recvM, in_two, hu, eq_str hkK.ok (show cOk [78] from rfl), eq_str hlo2 (show cOk [76] from rfl)]
      have hw : wkAt (own b) (lks t) p = if k = [78] ∧ lastP (own b) ((lks t).take (p + 1)) = [76] then [76] else k := by
        unfold wkAt
        rw [getD_of hk]
      by_cases h1 : k = [78]
      · have g1 : (k == [78]) = true := beq_iff_eq.mpr h1
        by_cases h2 : lastP (own b) ((lks t).take (p + 1)) = [76]
        · have g2 : (lastP (own b) ((lks t).take (p + 1)) == [76]) = true := beq_iff_eq.mpr h2
          have hset : ((mx (wk (own b) (lks t)) (lks t) p).map D.str).set p (.str [76]) = (mx (wk (own b) (lks t)) (lks t) (p + 1)).map D.str := by
            rw [set_map, mx_set WL hp (by rw [wk_at hp, hw, if_pos ⟨h1, h2⟩])]
          simp -implicitDefEqProofs only [rns_cons, rns_nil, sL_cons, sL_nil, eL_cons, eL_nil, rn, ev, evT, evs, evo, evq, evi, evC, bnd_ok, calm_ok, opt_some, nxt_nx, nxt_ret, nxt_brk, nxt_ct, ev_ok, fresh, bindT, bindTs, setSl, Option.map_some, Option.map_none, List.getElem?_cons_zero, List.getElem?_cons_succ, List.set_cons_zero, List.set_cons_succ, List.length_cons, List.length_nil, Nat.reduceAdd, Nat.reduceLT, Nat.zero_lt_succ, Nat.reduceSub, if_true, ite_tt, ite_ff, Bool.false_eq_true, if_false, in_str, lt_int, le_int, gt_int, ge_int, eq_int, ne_int, eq_bl, ne_bl, len_lst, len_tup, add_int, sub_int, sub_lst, sub_tup, tru_bl, recvM, g1, g2, hst, hset, set_app]
          exact ⟨_, .inl rfl, _, _, _, (by first | exact True.intro | rfl | contradiction | assumption), (by first | exact True.intro | rfl | contradiction | assumption)⟩
        · have g2 : (lastP (own b) ((lks t).take (p + 1)) == [76]) = false := beq_eq_false_iff_ne.mpr h2
          simp -implicitDefEqProofs only [rns_cons, rns_nil, sL_cons, sL_nil, eL_cons, eL_nil, rn, ev, evT, evs, evo, evq, evi, evC, bnd_ok, calm_ok, opt_some, nxt_nx, nxt_ret, nxt_brk, nxt_ct, ev_ok, fresh, bindT, bindTs, setSl, Option.map_some, Option.map_none, List.getElem?_cons_zero, List.getElem?_cons_succ, List.set_cons_zero, List.set_cons_succ, List.length_cons, List.length_nil, Nat.reduceAdd, Nat.reduceLT, Nat.zero_lt_succ, Nat.reduceSub, if_true, ite_tt, ite_ff, Bool.false_eq_true, if_false, in_str, lt_int, le_int, gt_int, ge_int, eq_int, ne_int, eq_bl, ne_bl, len_lst, len_tup, add_int, sub_int, sub_lst, sub_tup, tru_bl, recvM, g1, g2]
          refine ⟨_, .inl rfl, _, _, _, rfl, ?_⟩
          rw [mx_keep WL hp (by rw [wk_at hp, hw, if_neg (fun z => h2 z.2), hk])]
      · have g1 : (k == [78]) = false := beq_eq_false_iff_ne.mpr h1
        simp -implicitDefEqProofs only [rns_cons, rns_nil, sL_cons, sL_nil, eL_cons, eL_nil, rn, ev, evT, evs, evo, evq, evi, evC, bnd_ok, calm_ok, opt_some, nxt_nx, nxt_ret, nxt_brk, nxt_ct, ev_ok, fresh, bindT, bindTs, setSl, Option.map_some, Option.map_none, List.getElem?_cons_zero, List.getElem?_cons_succ, List.set_cons_zero, List.set_cons_succ, List.length_cons, List.length_nil, Nat.reduceAdd, Nat.reduceLT, Nat.zero_lt_succ, Nat.reduceSub, if_true, ite_tt, ite_ff, Bool.false_eq_true, if_false, in_str, lt_int, le_int, gt_int, ge_int, eq_int, ne_int, eq_bl, ne_bl, len_lst, len_tup, add_int, sub_int, sub_lst, sub_tup, tru_bl, recvM, g1]
        refine ⟨_, .inl rfl, _, _, _, rfl, ?_⟩
        rw [mx_keep WL hp (by rw [wk_at hp, hw, if_neg (fun z => h1 z.1), hk])]
    · rintro σ μ' ⟨a, e, g, rfl, rfl⟩
      have e1 : mx (wk (own b) (lks t)) (lks t) (enumL 0 ((lks t).map D.str)).length = wk (own b) (lks t) := by
        rw [enum_len, List.length_map, mx_end WL]
      rw [e1]
      have dr : drys (μ ++ [D.lst ((wk (own b) (lks t)).map .str)]) = true := by
        rw [drys_app, hμ]
        simp only [drys, dry, drys_map (f := D.str) (fun _ => rfl) (wk (own b) (lks t)), Bool.and_self]
      have hl80 : (wk (own b) (lks t)).length ≤ 80 := by rw [wk_len, lks_len]; exact ht.len
      simp -implicitDefEqProofs only [rns_cons, rns_nil, sL_cons, sL_nil, eL_cons, eL_nil, rn, ev, evT, evs, evo, evq, evi, evC, bnd_ok, calm_ok, opt_some, nxt_nx, nxt_ret, nxt_brk, nxt_ct, ev_ok, fresh, bindT, bindTs, setSl, Option.map_some, Option.map_none, List.getElem?_cons_zero, List.getElem?_cons_succ, List.set_cons_zero, List.set_cons_succ, List.length_cons, List.length_nil, Nat.reduceAdd, Nat.reduceLT, Nat.zero_lt_succ, Nat.reduceSub, if_true, ite_tt, ite_ff, Bool.false_eq_true, if_false, in_str, lt_int, le_int, gt_int, ge_int, eq_int, ne_int, eq_bl, ne_bl, len_lst, len_tup, add_int, sub_int, sub_lst, sub_tup, tru_bl, recvM, f_between n μ.length b (wk (own b) (lks t)) _ dr (cell _) hl80 (KS_wk (KS_lks t)) hb]
      exact ⟨_, .inl rfl, done_dry hμ (by simp only [dry]; exact drys_map (fun _ => rfl) _)⟩
end Mi
set_option Elab.async false
set_option linter.all false
set_option maxRecDepth 100000
set_option maxHeartbeats 4000000
/-! P19: the law's own levels. -/
namespace Mi
def levels (b : Int) (t : T) : List Int := (betw b (wk (own b) (lks t))).map (levP b)
theorem KS_betw {b : Int} (hb : b = 0 ∨ b = 1) {l : List T} (h : KS l) : ∀ k ∈ betw b l, k = [76] ∨ k = [82] ∨ k = [78] ∨ k = [83] ∨ k = [] := fun k hk => by
  obtain ⟨i, hi, rfl⟩ := List.mem_map.mp hk
  have hi := List.mem_range.mp hi
  have hs : ∀ x, side (own b) x = [76] ∨ side (own b) x = [82] := fun x => by
    unfold side own
    cases x with
    | none => rcases hb with rfl | rfl <;> simp
    | some y => by_cases q : y = [76] <;> simp [q]
  unfold btw
  split
  · split
    · rcases hs ((l.take i).filter nb).getLast? with q | q <;> rw [q] <;> simp
    · simp
  · rename_i hn
    rw [getD_of (List.getElem?_eq_getElem hi)] at hn ⊢
    rcases h _ (List.getElem_mem hi) with q | q | q | q | q | q
    · exact .inl q
    · exact .inr (.inl q)
    · exact .inr (.inr (.inl q))
    · exact absurd q hn
    · exact .inr (.inr (.inr (.inl q)))
    · exact .inr (.inr (.inr (.inr q)))
theorem betw_KS {b : Int} (hb : b = 0 ∨ b = 1) {l : List T} (h : KS l) : KS (betw b l) := fun k hk => by
  rcases KS_betw hb h k hk with q | q | q | q | q <;> unfold IsK <;> simp [q]
theorem levels_len (b : Int) (t : T) : (levels b t).length = t.length := by simp [levels, betw_len, wk_len, lks_len]
theorem p_levels (n : Nat) (t : T) (b : Int) (μ : Mu) (hμ : drys μ = true) (ht : Tx t) (hb : b = 0 ∨ b = 1) : (K (n + 3)).fn 3 [.str t, .int b] μ = .ok (.tup true ((levels b t).map .int)) μ :=
  f_levels (n + 1) t b (betw b (wk (own b) (lks t))) μ hμ ht hb (by rw [betw_len, wk_len, lks_len]; exact ht.len) (betw_KS hb (KS_wk (KS_lks t))) fun μ hμ => f_plain n t b μ hμ ht hb
theorem f_lkind (n : Nat) (t : T) (k : Nat) (μ : Mu) (hμ : drys μ = true) (hk : k < t.length) (hl : t.length ≤ LINE) : (K (n + 1)).fn 19 [.str t, .int (k : Int)] μ = .ok (.str (lk t k)) μ := by
  show fun_ (K n) 3 false b__law_kind [.str t, .int (k : Int)] μ = _
  refine fun_ret [some (.str t), some (.int (k : Int)), none] rfl ?_
  unfold b__law_kind
  have a0 : subM μ (.str t) (.int (k : Int)) = some (.str [t[k]]) := sub_str hl (atD_some (List.getElem?_eq_getElem hk))
  have cont : ∀ c : Nat, List.contains [48, 49, 50, 51, 52, 53, 54, 55, 56, 57] c = digs.contains c ∧ List.contains [43, 45, 46, 44, 58] c = sgs.contains c ∧ List.contains [97, 98, 99, 100, 101, 102, 103, 104, 105, 106, 107, 108, 109, 110, 111, 112, 113, 114, 115, 116, 117, 118, 119, 120, 121, 122] c = lefts.contains c ∧
    List.contains [65, 66, 67, 68, 69, 70, 71, 72, 73, 74, 75, 76, 77, 78, 79, 80, 81, 82, 83, 84, 85, 86, 87, 88, 89, 90] c = rights.contains c := fun c => ⟨rfl, rfl, rfl, rfl⟩
  have c1 := fun c => (cont c).1
  have c2 := fun c => (cont c).2.1
  have c3 := fun c => (cont c).2.2.1
  have c4 := fun c => (cont c).2.2.2
  have hlk : lk t k = lkk t[k] (btP t k) := by unfold lk; rw [getD_at hk]
  have hc : evT (K n) (.or (.cmp .isin (.var 2) (.cst (.str [48, 49, 50, 51, 52, 53, 54, 55, 56, 57]))) (.and (.cmp .isin (.var 2) (.cst (.str [43, 45, 46, 44, 58]))) (.and (.chn (.cst (.int 0)) (.more .lt (.var 1) (.last .lt (.bin .sub (.blt .len (.cons (.var 0) .nil)) (.cst (.int 1)))))) (.and (.cmp .isin (.sub (.var 0) (.bin .sub (.var 1) (.cst (.int 1)))) (.cst (.str [48, 49, 50, 51, 52, 53, 54, 55, 56, 57]))) (.cmp .isin (.sub (.var 0) (.bin .add (.var 1) (.cst (.int 1)))) (.cst (.str [48, 49, 50, 51, 52, 53, 54, 55, 56, 57]))))))) [some (.str t), some (.int (k : Int)), some (.str [t[k]])] μ = .ok (digs.contains t[k] || (sgs.contains t[k] && btP t k)) μ := by
    simp -implicitDefEqProofs only [rns_cons, rns_nil, sL_cons, sL_nil, eL_cons, eL_nil, rn, ev, evT, evs, evo, evq, evi, evC, bnd_ok, calm_ok, opt_some, nxt_nx, nxt_ret, nxt_brk, nxt_ct, ev_ok, fresh, bindT, bindTs, setSl, Option.map_some, Option.map_none, List.getElem?_cons_zero, List.getElem?_cons_succ, List.set_cons_zero, List.set_cons_succ, List.length_cons, List.length_nil, Nat.reduceAdd, Nat.reduceLT, Nat.zero_lt_succ, Nat.reduceSub, if_true, ite_tt, ite_ff, Bool.false_eq_true, if_false, in_str, lt_int, le_int, gt_int, ge_int, eq_int, ne_int, eq_bl, ne_bl, len_lst, len_tup, add_int, sub_int, sub_lst, sub_tup, tru_bl, recvM, c1, c2, len_str hl]
    cases hd : digs.contains t[k] with
    | true => rfl
    | false =>
      simp -implicitDefEqProofs only [rns_cons, rns_nil, sL_cons, sL_nil, eL_cons, eL_nil, rn, ev, evT, evs, evo, evq, evi, evC, bnd_ok, calm_ok, opt_some, nxt_nx, nxt_ret, nxt_brk, nxt_ct, ev_ok, fresh, bindT, bindTs, setSl, Option.map_some, Option.map_none, List.getElem?_cons_zero, List.getElem?_cons_succ, List.set_cons_zero, List.set_cons_succ, List.length_cons, List.length_nil, Nat.reduceAdd, Nat.reduceLT, Nat.zero_lt_succ, Nat.reduceSub, if_true, ite_tt, ite_ff, Bool.false_eq_true, if_false, in_str, lt_int, le_int, gt_int, ge_int, eq_int, ne_int, eq_bl, ne_bl, len_lst, len_tup, add_int, sub_int, sub_lst, sub_tup, tru_bl, recvM, Bool.false_or]
      cases hs : sgs.contains t[k] with
      | false => rfl
      | true =>
        simp -implicitDefEqProofs only [rns_cons, rns_nil, sL_cons, sL_nil, eL_cons, eL_nil, rn, ev, evT, evs, evo, evq, evi, evC, bnd_ok, calm_ok, opt_some, nxt_nx, nxt_ret, nxt_brk, nxt_ct, ev_ok, fresh, bindT, bindTs, setSl, Option.map_some, Option.map_none, List.getElem?_cons_zero, List.getElem?_cons_succ, List.set_cons_zero, List.set_cons_succ, List.length_cons, List.length_nil, Nat.reduceAdd, Nat.reduceLT, Nat.zero_lt_succ, Nat.reduceSub, if_true, ite_tt, ite_ff, Bool.false_eq_true, if_false, in_str, lt_int, le_int, gt_int, ge_int, eq_int, ne_int, eq_bl, ne_bl, len_lst, len_tup, add_int, sub_int, sub_lst, sub_tup, tru_bl, recvM, Bool.true_and, len_str hl]
        by_cases h0 : 0 < k ∧ k + 1 < t.length
        · have t0 : decide ((0 : Int) < (k : Int)) = true := decide_eq_true (by omega)
          have t1 : decide ((k : Int) < (t.length : Int) - 1) = true := decide_eq_true (by omega)
          have a1 : subM μ (.str t) (.int ((k : Int) - 1)) = some (.str [t[k - 1]]) := by
            rw [show ((k : Int) - 1) = ((k - 1 : Nat) : Int) by omega]
            exact sub_str hl (atD_some (List.getElem?_eq_getElem (by omega)))
          have a2 : subM μ (.str t) (.int ((k : Int) + 1)) = some (.str [t[k + 1]]) := by
            rw [show ((k : Int) + 1) = ((k + 1 : Nat) : Int) by omega]
            exact sub_str hl (atD_some (List.getElem?_eq_getElem h0.2))
          have bt : btP t k = (digs.contains t[k - 1] && digs.contains t[k + 1]) := by
            unfold btP
            rw [decide_eq_true h0.1, decide_eq_true h0.2, getD_at (by omega), getD_at h0.2]
            rfl
          simp -implicitDefEqProofs only [rns_cons, rns_nil, sL_cons, sL_nil, eL_cons, eL_nil, rn, ev, evT, evs, evo, evq, evi, evC, bnd_ok, calm_ok, opt_some, nxt_nx, nxt_ret, nxt_brk, nxt_ct, ev_ok, fresh, bindT, bindTs, setSl, Option.map_some, Option.map_none, List.getElem?_cons_zero, List.getElem?_cons_succ, List.set_cons_zero, List.set_cons_succ, List.length_cons, List.length_nil, Nat.reduceAdd, Nat.reduceLT, Nat.zero_lt_succ, Nat.reduceSub, if_true, ite_tt, ite_ff, Bool.false_eq_true, if_false, in_str, lt_int, le_int, gt_int, ge_int, eq_int, ne_int, eq_bl, ne_bl, len_lst, len_tup, add_int, sub_int, sub_lst, sub_tup, tru_bl, recvM, t0, t1, a1, a2, c1, bt]
          cases q1 : digs.contains t[k - 1] with
          | false => rfl
          | true =>
            simp -implicitDefEqProofs only [rns_cons, rns_nil, sL_cons, sL_nil, eL_cons, eL_nil, rn, ev, evT, evs, evo, evq, evi, evC, bnd_ok, calm_ok, opt_some, nxt_nx, nxt_ret, nxt_brk, nxt_ct, ev_ok, fresh, bindT, bindTs, setSl, Option.map_some, Option.map_none, List.getElem?_cons_zero, List.getElem?_cons_succ, List.set_cons_zero, List.set_cons_succ, List.length_cons, List.length_nil, Nat.reduceAdd, Nat.reduceLT, Nat.zero_lt_succ, Nat.reduceSub, if_true, ite_tt, ite_ff, Bool.false_eq_true, if_false, in_str, lt_int, le_int, gt_int, ge_int, eq_int, ne_int, eq_bl, ne_bl, len_lst, len_tup, add_int, sub_int, sub_lst, sub_tup, tru_bl, recvM, a2, c1, Bool.true_and]
        · have hb2 : btP t k = false := by
            unfold btP
            by_cases z : 0 < k
            · rw [decide_eq_false (show ¬ k + 1 < t.length from fun y => h0 ⟨z, y⟩), Bool.and_false]
              rfl
            · rw [decide_eq_false z]
              rfl
          by_cases z : 0 < k
          · have t0 : decide ((0 : Int) < (k : Int)) = true := decide_eq_true (by omega)
            have t1 : decide ((k : Int) < (t.length : Int) - 1) = false := decide_eq_false (fun y => h0 ⟨z, by omega⟩)
            simp -implicitDefEqProofs only [rns_cons, rns_nil, sL_cons, sL_nil, eL_cons, eL_nil, rn, ev, evT, evs, evo, evq, evi, evC, bnd_ok, calm_ok, opt_some, nxt_nx, nxt_ret, nxt_brk, nxt_ct, ev_ok, fresh, bindT, bindTs, setSl, Option.map_some, Option.map_none, List.getElem?_cons_zero, List.getElem?_cons_succ, List.set_cons_zero, List.set_cons_succ, List.length_cons, List.length_nil, Nat.reduceAdd, Nat.reduceLT, Nat.zero_lt_succ, Nat.reduceSub, if_true, ite_tt, ite_ff, Bool.false_eq_true, if_false, in_str, lt_int, le_int, gt_int, ge_int, eq_int, ne_int, eq_bl, ne_bl, len_lst, len_tup, add_int, sub_int, sub_lst, sub_tup, tru_bl, recvM, t0, t1, hb2]
          · have t0 : decide ((0 : Int) < (k : Int)) = false := decide_eq_false (by omega)
            simp -implicitDefEqProofs only [rns_cons, rns_nil, sL_cons, sL_nil, eL_cons, eL_nil, rn, ev, evT, evs, evo, evq, evi, evC, bnd_ok, calm_ok, opt_some, nxt_nx, nxt_ret, nxt_brk, nxt_ct, ev_ok, fresh, bindT, bindTs, setSl, Option.map_some, Option.map_none, List.getElem?_cons_zero, List.getElem?_cons_succ, List.set_cons_zero, List.set_cons_succ, List.length_cons, List.length_nil, Nat.reduceAdd, Nat.reduceLT, Nat.zero_lt_succ, Nat.reduceSub, if_true, ite_tt, ite_ff, Bool.false_eq_true, if_false, in_str, lt_int, le_int, gt_int, ge_int, eq_int, ne_int, eq_bl, ne_bl, len_lst, len_tup, add_int, sub_int, sub_lst, sub_tup, tru_bl, recvM, t0, hb2]
  simp -implicitDefEqProofs only [rns_cons, rns_nil, sL_cons, sL_nil, eL_cons, eL_nil, rn, ev, evT, evs, evo, evq, evi, evC, bnd_ok, calm_ok, opt_some, nxt_nx, nxt_ret, nxt_brk, nxt_ct, ev_ok, fresh, bindT, bindTs, setSl, Option.map_some, Option.map_none, List.getElem?_cons_zero, List.getElem?_cons_succ, List.set_cons_zero, List.set_cons_succ, List.length_cons, List.length_nil, Nat.reduceAdd, Nat.reduceLT, Nat.zero_lt_succ, Nat.reduceSub, if_true, ite_tt, ite_ff, Bool.false_eq_true, if_false, in_str, lt_int, le_int, gt_int, ge_int, eq_int, ne_int, eq_bl, ne_bl, len_lst, len_tup, add_int, sub_int, sub_lst, sub_tup, tru_bl, recvM, a0, ↓hc]
  rw [hlk]
  unfold lkk
  cases q : digs.contains t[k] || (sgs.contains t[k] && btP t k)
  · simp -implicitDefEqProofs only [rns_cons, rns_nil, sL_cons, sL_nil, eL_cons, eL_nil, rn, ev, evT, evs, evo, evq, evi, evC, bnd_ok, calm_ok, opt_some, nxt_nx, nxt_ret, nxt_brk, nxt_ct, ev_ok, fresh, bindT, bindTs, setSl, Option.map_some, Option.map_none, List.getElem?_cons_zero, List.getElem?_cons_succ, List.set_cons_zero, List.set_cons_succ, List.length_cons, List.length_nil, Nat.reduceAdd, Nat.reduceLT, Nat.zero_lt_succ, Nat.reduceSub, if_true, ite_tt, ite_ff, Bool.false_eq_true, if_false, in_str, lt_int, le_int, gt_int, ge_int, eq_int, ne_int, eq_bl, ne_bl, len_lst, len_tup, add_int, sub_int, sub_lst, sub_tup, tru_bl, recvM, c3, c4]
    cases q2 : lefts.contains t[k]
    · simp -implicitDefEqProofs only [rns_cons, rns_nil, sL_cons, sL_nil, eL_cons, eL_nil, rn, ev, evT, evs, evo, evq, evi, evC, bnd_ok, calm_ok, opt_some, nxt_nx, nxt_ret, nxt_brk, nxt_ct, ev_ok, fresh, bindT, bindTs, setSl, Option.map_some, Option.map_none, List.getElem?_cons_zero, List.getElem?_cons_succ, List.set_cons_zero, List.set_cons_succ, List.length_cons, List.length_nil, Nat.reduceAdd, Nat.reduceLT, Nat.zero_lt_succ, Nat.reduceSub, if_true, ite_tt, ite_ff, Bool.false_eq_true, if_false, in_str, lt_int, le_int, gt_int, ge_int, eq_int, ne_int, eq_bl, ne_bl, len_lst, len_tup, add_int, sub_int, sub_lst, sub_tup, tru_bl, recvM, c4]
      cases q3 : rights.contains t[k]
      · simp -implicitDefEqProofs only [rns_cons, rns_nil, sL_cons, sL_nil, eL_cons, eL_nil, rn, ev, evT, evs, evo, evq, evi, evC, bnd_ok, calm_ok, opt_some, nxt_nx, nxt_ret, nxt_brk, nxt_ct, ev_ok, fresh, bindT, bindTs, setSl, Option.map_some, Option.map_none, List.getElem?_cons_zero, List.getElem?_cons_succ, List.set_cons_zero, List.set_cons_succ, List.length_cons, List.length_nil, Nat.reduceAdd, Nat.reduceLT, Nat.zero_lt_succ, Nat.reduceSub, if_true, ite_tt, ite_ff, Bool.false_eq_true, if_false, in_str, lt_int, le_int, gt_int, ge_int, eq_int, ne_int, eq_bl, ne_bl, len_lst, len_tup, add_int, sub_int, sub_lst, sub_tup, tru_bl, recvM]
        exact ⟨_, .inl rfl, done_dry0 hμ rfl⟩
      · simp -implicitDefEqProofs only [rns_cons, rns_nil, sL_cons, sL_nil, eL_cons, eL_nil, rn, ev, evT, evs, evo, evq, evi, evC, bnd_ok, calm_ok, opt_some, nxt_nx, nxt_ret, nxt_brk, nxt_ct, ev_ok, fresh, bindT, bindTs, setSl, Option.map_some, Option.map_none, List.getElem?_cons_zero, List.getElem?_cons_succ, List.set_cons_zero, List.set_cons_succ, List.length_cons, List.length_nil, Nat.reduceAdd, Nat.reduceLT, Nat.zero_lt_succ, Nat.reduceSub, if_true, ite_tt, ite_ff, Bool.false_eq_true, if_false, in_str, lt_int, le_int, gt_int, ge_int, eq_int, ne_int, eq_bl, ne_bl, len_lst, len_tup, add_int, sub_int, sub_lst, sub_tup, tru_bl, recvM]
        exact ⟨_, .inl rfl, done_dry0 hμ rfl⟩
    · simp -implicitDefEqProofs only [rns_cons, rns_nil, sL_cons, sL_nil, eL_cons, eL_nil, rn, ev, evT, evs, evo, evq, evi, evC, bnd_ok, calm_ok, opt_some, nxt_nx, nxt_ret, nxt_brk, nxt_ct, ev_ok, fresh, bindT, bindTs, setSl, Option.map_some, Option.map_none, List.getElem?_cons_zero, List.getElem?_cons_succ, List.set_cons_zero, List.set_cons_succ, List.length_cons, List.length_nil, Nat.reduceAdd, Nat.reduceLT, Nat.zero_lt_succ, Nat.reduceSub, if_true, ite_tt, ite_ff, Bool.false_eq_true, if_false, in_str, lt_int, le_int, gt_int, ge_int, eq_int, ne_int, eq_bl, ne_bl, len_lst, len_tup, add_int, sub_int, sub_lst, sub_tup, tru_bl, recvM]
      exact ⟨_, .inl rfl, done_dry0 hμ rfl⟩
  · simp -implicitDefEqProofs only [rns_cons, rns_nil, sL_cons, sL_nil, eL_cons, eL_nil, rn, ev, evT, evs, evo, evq, evi, evC, bnd_ok, calm_ok, opt_some, nxt_nx, nxt_ret, nxt_brk, nxt_ct, ev_ok, fresh, bindT, bindTs, setSl, Option.map_some, Option.map_none, List.getElem?_cons_zero, List.getElem?_cons_succ, List.set_cons_zero, List.set_cons_succ, List.length_cons, List.length_nil, Nat.reduceAdd, Nat.reduceLT, Nat.zero_lt_succ, Nat.reduceSub, if_true, ite_tt, ite_ff, Bool.false_eq_true, if_false, in_str, lt_int, le_int, gt_int, ge_int, eq_int, ne_int, eq_bl, ne_bl, len_lst, len_tup, add_int, sub_int, sub_lst, sub_tup, tru_bl, recvM]
    exact ⟨_, .inl rfl, done_dry0 hμ rfl⟩
end Mi
set_option Elab.async false
set_option linter.all false
set_option maxRecDepth 100000
set_option maxHeartbeats 4000000
/-! P20: the law's own levels (2). -/
namespace Mi
theorem in_LR {μ : Mu} {k : T} (h : k = [76] ∨ k = [82] ∨ k = [78] ∨ k = [66]) : cmpM .isin μ (.str k) (.str [76, 82]) = some (decide (k = [76]) || decide (k = [82])) := by
  rcases h with rfl | rfl | rfl | rfl <;> rfl
theorem take_map_one {α : Type} {f : α → D} {l : List α} {p : Nat} {x : α} (h : l[p]? = some x) : (l.take p).map f ++ [f x] = (l.take (p + 1)).map f := by
  rw [take_one h, List.map_append] <;> rfl
theorem fm_filter {l : List T} : (l.filterMap fun k => if nb k = true then some k else none) = l.filter nb := by
  induction l with
  | nil => rfl
  | cons x l ih =>
    cases h : nb x with
    | true => rw [List.filterMap_cons_some (b := x) (by simp [h]), List.filter_cons_of_pos h, ih]
    | false => rw [List.filterMap_cons_none (by simp [h]), List.filter_cons_of_neg (by simp [h]), ih]
theorem getK_lev {b : Int} (hb : b = 0 ∨ b = 1) {k : T} (h : k = [76] ∨ k = [82] ∨ k = [78] ∨ k = []) : getK (.str k) [.str [82], .str [78], .str [76], .str []] [.int 1, .int 2, .int (2 * b), .int b] = some (.int (levP b k)) := by
  rcases hb with rfl | rfl <;> rcases h with rfl | rfl | rfl | rfl <;> rfl
theorem f_llevels (n : Nat) (t : T) (b : Int) (μ : Mu) (hμ : drys μ = true) (ht : Tx t) (hb : b = 0 ∨ b = 1) : (K (n + 2)).fn 20 [.str t, .int b] μ = .ok (.lst ((levels b t).map .int)) μ := by
  show fun_ (K (n + 1)) 13 false b__law_levels [.str t, .int b] μ = _
  refine fun_ret [some (.str t), some (.int b), none, none, none, none, none, none, none, none, none, none, none] rfl ?_
  unfold b__law_levels
  have hn : t.length < 1000000 := by have := ht.len; omega
  simp -implicitDefEqProofs only [rns_cons, rns_nil, sL_cons, sL_nil, eL_cons, eL_nil, rn, ev, evT, evs, evo, evq, evi, evC, bnd_ok, calm_ok, opt_some, nxt_nx, nxt_ret, nxt_brk, nxt_ct, ev_ok, fresh, bindT, bindTs, setSl, Option.map_some, Option.map_none, List.getElem?_cons_zero, List.getElem?_cons_succ, List.set_cons_zero, List.set_cons_succ, List.length_cons, List.length_nil, Nat.reduceAdd, Nat.reduceLT, Nat.zero_lt_succ, Nat.reduceSub, if_true, ite_tt, ite_ff, Bool.false_eq_true, if_false, in_str, lt_int, le_int, gt_int, ge_int, eq_int, ne_int, eq_bl, ne_bl, len_lst, len_tup, add_int, sub_int, sub_lst, sub_tup, tru_bl, recvM, len_str ht.line, rng_nat hn]
  rw [ev_bnd, ev_bnd, ev_bnd, ev_bnd, ev_calm]
  refine ev_mapR (fun k => .str (lk t k)) rfl (fun k hk => ?_) ?_
  · rw [turnM_1 (by simp)]
    simp -implicitDefEqProofs only [rns_cons, rns_nil, sL_cons, sL_nil, eL_cons, eL_nil, rn, ev, evT, evs, evo, evq, evi, evC, bnd_ok, calm_ok, opt_some, nxt_nx, nxt_ret, nxt_brk, nxt_ct, ev_ok, fresh, bindT, bindTs, setSl, Option.map_some, Option.map_none, List.getElem?_cons_zero, List.getElem?_cons_succ, List.set_cons_zero, List.set_cons_succ, List.length_cons, List.length_nil, Nat.reduceAdd, Nat.reduceLT, Nat.zero_lt_succ, Nat.reduceSub, if_true, ite_tt, ite_ff, Bool.false_eq_true, if_false, in_str, lt_int, le_int, gt_int, ge_int, eq_int, ne_int, eq_bl, ne_bl, len_lst, len_tup, add_int, sub_int, sub_lst, sub_tup, tru_bl, recvM, f_lkind n t k μ hμ (List.mem_range.mp hk) ht.line]
  have l0 : ((List.range t.length).map fun k => D.str (lk t k)) = (lks t).map .str := by unfold lks; rw [List.map_map]; rfl
  rw [l0]
  have own1 : subM μ (.str [76, 82]) (.int b) = some (.str (own b)) := by rcases hb with rfl | rfl <;> rfl
  simp -implicitDefEqProofs only [rns_cons, rns_nil, sL_cons, sL_nil, eL_cons, eL_nil, rn, ev, evT, evs, evo, evq, evi, evC, bnd_ok, calm_ok, opt_some, nxt_nx, nxt_ret, nxt_brk, nxt_ct, ev_ok, fresh, bindT, bindTs, setSl, Option.map_some, Option.map_none, List.getElem?_cons_zero, List.getElem?_cons_succ, List.set_cons_zero, List.set_cons_succ, List.length_cons, List.length_nil, Nat.reduceAdd, Nat.reduceLT, Nat.zero_lt_succ, Nat.reduceSub, if_true, ite_tt, ite_ff, Bool.false_eq_true, if_false, in_str, lt_int, le_int, gt_int, ge_int, eq_int, ne_int, eq_bl, ne_bl, len_lst, len_tup, add_int, sub_int, sub_lst, sub_tup, tru_bl, recvM, own1, seq_lst]
  rw [ev_bnd]
  refine for_inv (fun p σ μ' => ∃ a, σ = [some (.str t), some (.int b), a, none, some (.lst ((lks t).map .str)), some (.str (lastP (own b) ((lks t).take p))), some (.lst (((wk (own b) (lks t)).take p).map .str)), none, none, none, none, none, none] ∧ μ' = μ) ⟨_, rfl, rfl⟩ (fun _ _ _ _ => rfl) ?_ ?_
  · rintro p x σ μ' hx ⟨a, rfl, rfl⟩
    rw [List.getElem?_map] at hx
    obtain ⟨k, hk, rfl⟩ := Option.map_eq_some_iff.mp hx
    have hp : p < (lks t).length := (List.getElem?_eq_some_iff.mp hk).1
    have hp80 : p < 80 := by rw [lks_len] at hp; have := ht.len; omega
    rw [turn_1 (by simp)]
    have hk4 : k = [76] ∨ k = [82] ∨ k = [78] ∨ k = [66] := by
      obtain ⟨i, _, rfl⟩ := List.mem_map.mp (List.mem_of_getElem? hk)
      exact lkk_non _ _
    have hkK : IsK k := KS_lks t k (List.mem_of_getElem? hk)
    have hlo2 : cOk (lastP (own b) ((lks t).take (p + 1))) := last_ok (own_ok hb) fun z hz => KS_lks t z (List.mem_of_mem_take hz)
    have hu : (if (decide (k = [76]) || decide (k = [82])) = true then R.ok (D.str k) μ' else R.ok (D.str (lastP (own b) ((lks t).take p))) μ') = .ok (.str (lastP (own b) ((lks t).take (p + 1)))) μ' := by
      rw [last_step hk]
      unfold upd
      by_cases z : k = [76] ∨ k = [82]
      · rw [if_pos z, if_pos (by simpa using z)]
      · rw [if_neg z, if_neg (by simpa using z)]
    have hw : (if (k == [78]) = true then R.ok (lastP (own b) ((lks t).take (p + 1)) == [76]) μ' else R.ok false μ').bnd (fun tt μ => if tt = true then R.ok (D.str [76]) μ else R.ok (D.str k) μ) = .ok (.str (wkAt (own b) (lks t) p)) μ' := by
      unfold wkAt
      rw [getD_of hk]
      by_cases h1 : k = [78]
      · have g1 : (k == [78]) = true := beq_iff_eq.mpr h1
        by_cases h2 : lastP (own b) ((lks t).take (p + 1)) = [76]
        · have g2 : (lastP (own b) ((lks t).take (p + 1)) == [76]) = true := beq_iff_eq.mpr h2
          rw [g1, if_pos rfl, bnd_ok, g2, if_pos rfl, if_pos ⟨h1, h2⟩]
        · have g2 : (lastP (own b) ((lks t).take (p + 1)) == [76]) = false := beq_eq_false_iff_ne.mpr h2
          rw [g1, if_pos rfl, bnd_ok, g2, ite_ff, if_neg (fun z => h2 z.2)]
      · have g1 : (k == [78]) = false := beq_eq_false_iff_ne.mpr h1
        rw [g1, ite_ff, bnd_ok, ite_ff, if_neg (fun z => h1 z.1)]
    have hl : (((wk (own b) (lks t)).take p).map D.str).length + [D.str (wkAt (own b) (lks t) p)].length ≤ LINE := by
      rw [List.length_map, List.length_take]
      unfold LINE
      simp
      omega
    simp -implicitDefEqProofs only [rns_cons, rns_nil, sL_cons, sL_nil, eL_cons, eL_nil, rn, ev, evT, evs, evo, evq, evi, evC, bnd_ok, calm_ok, opt_some, nxt_nx, nxt_ret, nxt_brk, nxt_ct, ev_ok, fresh, bindT, bindTs, setSl, Option.map_some, Option.map_none, List.getElem?_cons_zero, List.getElem?_cons_succ, List.set_cons_zero, List.set_cons_succ, List.length_cons, List.length_nil, Nat.reduceAdd, Nat.reduceLT, Nat.zero_lt_succ, Nat.reduceSub, if_true, ite_tt, ite_ff, Bool.false_eq_true, if_false, in_str, lt_int, le_int, gt_int, ge_int, eq_int, ne_int, eq_bl, ne_bl, len_lst, len_tup, add_int, sub_int, sub_lst, sub_tup, tru_bl, recvM, in_LR hk4, hu, eq_str hkK.ok (show cOk [78] from rfl), eq_str hlo2 (show cOk [76] from rfl), hw, add_lst hl]
    rw [take_map_one (wk_at hp)]
    exact ⟨_, .inl rfl, _, (by first | exact True.intro | rfl | contradiction | assumption), (by first | exact True.intro | rfl | contradiction | assumption)⟩
  · rintro σ μ' ⟨a, rfl, rfl⟩
    have e1 : (wk (own b) (lks t)).take ((lks t).map D.str).length = wk (own b) (lks t) := by
      rw [List.length_map, List.take_of_length_le (by rw [wk_len]; exact Nat.le_refl _)]
    rw [e1]
    generalize hW : wk (own b) (lks t) = W
    have hWK : KS W := hW ▸ KS_wk (KS_lks t)
    have hWl : W.length = t.length := by rw [← hW, wk_len, lks_len]
    have lev_eq : levels b t = (betw b W).map (levP b) := by unfold levels; rw [hW]
    rw [lev_eq]
    generalize lastP (own b) _ = la
    simp -implicitDefEqProofs only [rns_cons, rns_nil, sL_cons, sL_nil, eL_cons, eL_nil, rn, ev, evT, evs, evo, evq, evi, evC, bnd_ok, calm_ok, opt_some, nxt_nx, nxt_ret, nxt_brk, nxt_ct, ev_ok, fresh, bindT, bindTs, setSl, Option.map_some, Option.map_none, List.getElem?_cons_zero, List.getElem?_cons_succ, List.set_cons_zero, List.set_cons_succ, List.length_cons, List.length_nil, Nat.reduceAdd, Nat.reduceLT, Nat.zero_lt_succ, Nat.reduceSub, if_true, ite_tt, ite_ff, Bool.false_eq_true, if_false, in_str, lt_int, le_int, gt_int, ge_int, eq_int, ne_int, eq_bl, ne_bl, len_lst, len_tup, add_int, sub_int, sub_lst, sub_tup, tru_bl, recvM, seq_lst]
    rw [ev_bnd]
    refine for_inv (fun p σ μ2 => ∃ a c d e f, σ = [some (.str t), some (.int b), a, some (.lst ((((betw b W).map (levP b)).take p).map .int)), some (.lst ((lks t).map .str)), some (.str la), some (.lst (W.map .str)), c, d, e, f, none, none] ∧ μ2 = μ') ⟨_, _, _, _, _, rfl, rfl⟩ (fun _ _ _ _ => rfl) ?_ ?_
    · rintro p x σ μ2 hx ⟨a, c, d, e, f, rfl, rfl⟩
      obtain ⟨y, hy, rfl⟩ := enum_at hx
      rw [List.getElem?_map] at hy
      obtain ⟨k, hk, rfl⟩ := Option.map_eq_some_iff.mp hy
      have hp : p < W.length := (List.getElem?_eq_some_iff.mp hk).1
      have hkK : IsK k := hWK k (List.mem_of_getElem? hk)
      rw [turn_2 (by simp) (by simp), Nat.zero_add]
      have drp : slcM μ2 (.lst (W.map D.str)) (some (p : Int)) none = some (.lst ((W.drop p).map .str)) := by
        rw [slc_lo (by rw [List.length_map]; omega), List.map_drop]
      have tkp : slcM μ2 (.lst (W.map D.str)) none (some (p : Int)) = some (.lst ((W.take p).map .str)) := by
        rw [slc_hi, List.map_take]
      simp -implicitDefEqProofs only [rns_cons, rns_nil, sL_cons, sL_nil, eL_cons, eL_nil, rn, ev, evT, evs, evo, evq, evi, evC, bnd_ok, calm_ok, opt_some, nxt_nx, nxt_ret, nxt_brk, nxt_ct, ev_ok, fresh, bindT, bindTs, setSl, Option.map_some, Option.map_none, List.getElem?_cons_zero, List.getElem?_cons_succ, List.set_cons_zero, List.set_cons_succ, List.length_cons, List.length_nil, Nat.reduceAdd, Nat.reduceLT, Nat.zero_lt_succ, Nat.reduceSub, if_true, ite_tt, ite_ff, Bool.false_eq_true, if_false, in_str, lt_int, le_int, gt_int, ge_int, eq_int, ne_int, eq_bl, ne_bl, len_lst, len_tup, add_int, sub_int, sub_lst, sub_tup, tru_bl, recvM, tkp, seq_lst]
      simp only [ev_bnd, ev_calm]
      refine ev_mapF (fun k => if nb k = true then some k else none) .str rfl (fun x hx => ?_) ?_
      · rw [turnM_1 (by simp)]
        simp -implicitDefEqProofs only [rns_cons, rns_nil, sL_cons, sL_nil, eL_cons, eL_nil, rn, ev, evT, evs, evo, evq, evi, evC, bnd_ok, calm_ok, opt_some, nxt_nx, nxt_ret, nxt_brk, nxt_ct, ev_ok, fresh, bindT, bindTs, setSl, Option.map_some, Option.map_none, List.getElem?_cons_zero, List.getElem?_cons_succ, List.set_cons_zero, List.set_cons_succ, List.length_cons, List.length_nil, Nat.reduceAdd, Nat.reduceLT, Nat.zero_lt_succ, Nat.reduceSub, if_true, ite_tt, ite_ff, Bool.false_eq_true, if_false, in_str, lt_int, le_int, gt_int, ge_int, eq_int, ne_int, eq_bl, ne_bl, len_lst, len_tup, add_int, sub_int, sub_lst, sub_tup, tru_bl, recvM, ne_str (hWK x (List.mem_of_mem_take hx)).ok (show cOk [66] from rfl)]
        unfold nb
        cases q : (x == [66]) <;> rfl
      rw [fm_filter]
      simp -implicitDefEqProofs only [rns_cons, rns_nil, sL_cons, sL_nil, eL_cons, eL_nil, rn, ev, evT, evs, evo, evq, evi, evC, bnd_ok, calm_ok, opt_some, nxt_nx, nxt_ret, nxt_brk, nxt_ct, ev_ok, fresh, bindT, bindTs, setSl, Option.map_some, Option.map_none, List.getElem?_cons_zero, List.getElem?_cons_succ, List.set_cons_zero, List.set_cons_succ, List.length_cons, List.length_nil, Nat.reduceAdd, Nat.reduceLT, Nat.zero_lt_succ, Nat.reduceSub, if_true, ite_tt, ite_ff, Bool.false_eq_true, if_false, in_str, lt_int, le_int, gt_int, ge_int, eq_int, ne_int, eq_bl, ne_bl, len_lst, len_tup, add_int, sub_int, sub_lst, sub_tup, tru_bl, recvM, drp, seq_lst]
      simp only [ev_bnd, ev_calm]
      refine ev_mapF (fun k => if nb k = true then some k else none) .str rfl (fun x hx => ?_) ?_
      · rw [turnM_1 (by simp)]
        simp -implicitDefEqProofs only [rns_cons, rns_nil, sL_cons, sL_nil, eL_cons, eL_nil, rn, ev, evT, evs, evo, evq, evi, evC, bnd_ok, calm_ok, opt_some, nxt_nx, nxt_ret, nxt_brk, nxt_ct, ev_ok, fresh, bindT, bindTs, setSl, Option.map_some, Option.map_none, List.getElem?_cons_zero, List.getElem?_cons_succ, List.set_cons_zero, List.set_cons_succ, List.length_cons, List.length_nil, Nat.reduceAdd, Nat.reduceLT, Nat.zero_lt_succ, Nat.reduceSub, if_true, ite_tt, ite_ff, Bool.false_eq_true, if_false, in_str, lt_int, le_int, gt_int, ge_int, eq_int, ne_int, eq_bl, ne_bl, len_lst, len_tup, add_int, sub_int, sub_lst, sub_tup, tru_bl, recvM, ne_str (hWK x (List.mem_of_mem_drop hx)).ok (show cOk [66] from rfl)]
        unfold nb
        cases q : (x == [66]) <;> rfl
      rw [fm_filter]
      generalize hfa : (W.take p).filter nb = A
      generalize hfb : (W.drop p).filter nb = B
      have hAK : KS A := fun x hx => hWK x (by rw [← hfa] at hx; exact List.mem_of_mem_take (List.mem_filter.mp hx).1)
      have hBK : KS B := fun x hx => hWK x (by rw [← hfb] at hx; exact List.mem_of_mem_drop (List.mem_filter.mp hx).1)
      have pls : ∀ {L : List T}, KS L → plains 19 (L.map D.str) = true := fun {L} hL => by
        clear hfa hfb
        induction L with
        | nil => rfl
        | cons x L ih =>
          rw [List.map_cons]
          unfold plains
          rw [Bool.and_eq_true]
          exact ⟨(hL x List.mem_cons_self).ok, ih fun y hy => hL y (List.mem_cons_of_mem _ hy)⟩
      have okO : cOk (own b) := own_ok hb
      obtain ⟨x1, hx1, ok1, hA⟩ : ∃ x1, side (own b) A.getLast? = (if x1 = [76] then [76] else [82]) ∧ cOk x1 ∧ (if (!(A.map D.str).isEmpty) = true then opt (atD (A.map D.str) (-1)) μ2 else R.ok (D.str (own b)) μ2) = .ok (.str x1) μ2 := by
        cases hq : A.getLast? with
        | none =>
          have : A = [] := List.getLast?_eq_none_iff.mp hq
          subst this
          refine ⟨own b, ?_, okO, rfl⟩
          rcases hb with rfl | rfl <;> rfl
        | some x =>
          have hm : x ∈ A := List.mem_of_getLast? hq
          refine ⟨x, rfl, (hAK x hm).ok, ?_⟩
          have e1 : (A.map D.str).isEmpty = false := by cases A with
            | nil => cases hm
            | cons _ _ => rfl
          have e2 : atD (A.map D.str) (-1) = some (.str x) := atD_neg1 (by rw [List.getLast?_map, hq]; rfl)
          rw [e1, e2]
          rfl
      obtain ⟨x2, hx2, ok2, hB⟩ : ∃ x2, side (own b) B.head? = (if x2 = [76] then [76] else [82]) ∧ cOk x2 ∧ (if (!(B.map D.str).isEmpty) = true then opt (atD (B.map D.str) 0) μ2 else R.ok (D.str (own b)) μ2) = .ok (.str x2) μ2 := by
        cases hq : B.head? with
        | none =>
          have : B = [] := List.head?_eq_none_iff.mp hq
          subst this
          refine ⟨own b, ?_, okO, rfl⟩
          rcases hb with rfl | rfl <;> rfl
        | some x =>
          have hm : x ∈ B := List.mem_of_head? hq
          refine ⟨x, rfl, (hBK x hm).ok, ?_⟩
          have e1 : (B.map D.str).isEmpty = false := by cases B with
            | nil => cases hm
            | cons _ _ => rfl
          have e2 : atD (B.map D.str) 0 = some (.str x) := atD_0 (by rw [List.head?_map, hq]; rfl)
          rw [e1, e2]
          rfl
      have ng : ∀ xs : List D, subM μ2 (.lst xs) (.int (-1)) = atD xs (-1) := fun _ => rfl
      simp -implicitDefEqProofs only [rns_cons, rns_nil, sL_cons, sL_nil, eL_cons, eL_nil, rn, ev, evT, evs, evo, evq, evi, evC, bnd_ok, calm_ok, opt_some, nxt_nx, nxt_ret, nxt_brk, nxt_ct, ev_ok, fresh, bindT, bindTs, setSl, Option.map_some, Option.map_none, List.getElem?_cons_zero, List.getElem?_cons_succ, List.set_cons_zero, List.set_cons_succ, List.length_cons, List.length_nil, Nat.reduceAdd, Nat.reduceLT, Nat.zero_lt_succ, Nat.reduceSub, if_true, ite_tt, ite_ff, Bool.false_eq_true, if_false, in_str, lt_int, le_int, gt_int, ge_int, eq_int, ne_int, eq_bl, ne_bl, len_lst, len_tup, add_int, sub_int, sub_lst, sub_tup, tru_bl, recvM, ne_nil (pls hAK), ne_nil (pls hBK), own1, ng, hA, hB, seq_lst]
      rw [show [D.str x1, D.str x2] = [x1, x2].map D.str from rfl]
      simp only [ev_bnd, ev_calm]
      refine ev_mapR (fun x => .str (if x = [76] then [76] else [82])) rfl (fun x hx => ?_) ?_
      · rw [turnM_1 (by simp)]
        have okx : cOk x := by
          rcases List.mem_cons.mp hx with rfl | hx
          · exact ok1
          · rcases List.mem_cons.mp hx with rfl | hx
            · exact ok2
            · cases hx
        simp -implicitDefEqProofs only [rns_cons, rns_nil, sL_cons, sL_nil, eL_cons, eL_nil, rn, ev, evT, evs, evo, evq, evi, evC, bnd_ok, calm_ok, opt_some, nxt_nx, nxt_ret, nxt_brk, nxt_ct, ev_ok, fresh, bindT, bindTs, setSl, Option.map_some, Option.map_none, List.getElem?_cons_zero, List.getElem?_cons_succ, List.set_cons_zero, List.set_cons_succ, List.length_cons, List.length_nil, Nat.reduceAdd, Nat.reduceLT, Nat.zero_lt_succ, Nat.reduceSub, if_true, ite_tt, ite_ff, Bool.false_eq_true, if_false, in_str, lt_int, le_int, gt_int, ge_int, eq_int, ne_int, eq_bl, ne_bl, len_lst, len_tup, add_int, sub_int, sub_lst, sub_tup, tru_bl, recvM, eq_str okx (show cOk [76] from rfl)]
        by_cases q : x = [76]
        · rw [if_pos q, beq_iff_eq.mpr q]; rfl
        · rw [if_neg q, beq_eq_false_iff_ne.mpr q]; rfl
      rw [show [x1, x2].map (fun x => D.str (if x = [76] then [76] else [82])) = [.str (side (own b) A.getLast?), .str (side (own b) B.head?)] by rw [hx1, hx2]; rfl]
      have okS : ∀ (k : Option T), cOk (side (own b) k) := fun k => by
        unfold side own
        cases k with
        | none => rcases hb with rfl | rfl <;> rfl
        | some x => by_cases h : x = [76] <;> simp [h]
      have hbt : btw (own b) W p = if k = [66] then (if side (own b) A.getLast? = side (own b) B.head? then side (own b) A.getLast? else []) else k := by
        unfold btw
        rw [getD_of hk, hfa, hfb]
      generalize side (own b) A.getLast? = s1 at *
      have ok3 : cOk s1 := by rw [hx1]; by_cases q : x1 = [76] <;> simp [q]
      generalize side (own b) B.head? = s2 at *
      have ok4 : cOk s2 := by rw [hx2]; by_cases q : x2 = [76] <;> simp [q]
      have i0 : atD [D.str s1, .str s2] 0 = some (.str s1) := rfl
      have i1 : atD [D.str s1, .str s2] 1 = some (.str s2) := rfl
      have hkv : (if (!(k == [66])) = true then R.ok (D.str k) μ2 else if (s1 == s2) = true then R.ok (D.str s1) μ2 else R.ok (D.str []) μ2) = .ok (.str (btw (own b) W p)) μ2 := by
        rw [hbt]
        by_cases q : k = [66]
        · have q1 : (k == [66]) = true := beq_iff_eq.mpr q
          rw [if_pos q, q1]
          by_cases q2 : s1 = s2
          · have q3 : (s1 == s2) = true := beq_iff_eq.mpr q2
            rw [if_pos q2, q3]; rfl
          · have q3 : (s1 == s2) = false := beq_eq_false_iff_ne.mpr q2
            rw [if_neg q2, q3]; rfl
        · have q1 : (k == [66]) = false := beq_eq_false_iff_ne.mpr q
          rw [if_neg q, q1]; rfl
      have mulb : binM .mul μ2 (.int 2) (.int b) = some (.int (2 * b)) := mul_int (by rw [show small 2 = true by decide]; rfl)
      have hdic : ∀ σ, σ[1]? = some (some (D.int b)) → evd (K (n + 1)) (.cons (.cst (.str [82])) (.cons (.cst (.int 1)) (.cons (.cst (.str [78])) (.cons (.cst (.int 2)) (.cons (.cst (.str [76])) (.cons (.bin .mul (.cst (.int 2)) (.var 1)) (.cons (.cst (.str [])) (.cons (.var 1) .nil)))))))) σ μ2 [] [] = .ok ([.str [82], .str [78], .str [76], .str []], [.int 1, .int 2, .int (2 * b), .int b]) μ2 := fun σ hσ => by
        simp -implicitDefEqProofs only [rns_cons, rns_nil, sL_cons, sL_nil, eL_cons, eL_nil, rn, ev, evT, evs, evo, evq, evi, evC, bnd_ok, calm_ok, opt_some, nxt_nx, nxt_ret, nxt_brk, nxt_ct, ev_ok, fresh, bindT, bindTs, setSl, Option.map_some, Option.map_none, List.getElem?_cons_zero, List.getElem?_cons_succ, List.set_cons_zero, List.set_cons_succ, List.length_cons, List.length_nil, Nat.reduceAdd, Nat.reduceLT, Nat.zero_lt_succ, Nat.reduceSub, if_true, ite_tt, ite_ff, Bool.false_eq_true, if_false, in_str, lt_int, le_int, gt_int, ge_int, eq_int, ne_int, eq_bl, ne_bl, len_lst, len_tup, add_int, sub_int, sub_lst, sub_tup, tru_bl, recvM, evd, hσ, mulb]
        rfl
      have hval : btw (own b) W p = [76] ∨ btw (own b) W p = [82] ∨ btw (own b) W p = [78] ∨ btw (own b) W p = [] := by
        have hm : btw (own b) W p ∈ betw b W := List.mem_of_getElem? (betw_at hp)
        rcases KS_betw hb hWK _ hm with q | q | q | q | q
        · exact .inl q
        · exact .inr (.inl q)
        · exact .inr (.inr (.inl q))
        · exfalso
          rw [hbt] at q
          have hk83 : k ≠ [83] := by
            rw [← hW] at hk
            have hpl : p < (lks t).length := by
              have := (List.getElem?_eq_some_iff.mp hk).1
              rwa [wk_len] at this
            rw [wk_at hpl] at hk
            cases hk
            unfold wkAt
            split
            · simp
            · rw [getD_of (lks_at (by rw [← lks_len]; exact hpl))]
              rcases lkk_non (t.getD p 0) (btP t p) with z | z | z | z <;> (unfold lk; rw [z]; simp)
          split at q
          · split at q
            · rw [hx1] at q
              split at q <;> cases q
            · cases q
          · exact hk83 q
        · exact .inr (.inr (.inr q))
      have hsub : subM μ2 (.dic [.str [82], .str [78], .str [76], .str []] [.int 1, .int 2, .int (2 * b), .int b]) (.str (btw (own b) W p)) = some (.int (levP b (btw (own b) W p))) := by
        rw [← getK_lev hb hval] <;> rfl
      have hlv : ((betw b W).map (levP b))[p]? = some (levP b (btw (own b) W p)) := by rw [List.getElem?_map, betw_at hp]; rfl
      have hl : (((((betw b W).map (levP b)).take p).map D.int).length + [D.int (levP b (btw (own b) W p))].length ≤ LINE) := by
        rw [List.length_map, List.length_take]
        unfold LINE
        simp
        have := ht.len
        omega
      simp -implicitDefEqProofs only [rns_cons, rns_nil, sL_cons, sL_nil, eL_cons, eL_nil, rn, ev, evT, evs, evo, evq, evi, evC, bnd_ok, calm_ok, opt_some, nxt_nx, nxt_ret, nxt_brk, nxt_ct, ev_ok, fresh, bindT, bindTs, setSl, Option.map_some, Option.map_none, List.getElem?_cons_zero, List.getElem?_cons_succ, List.set_cons_zero, List.set_cons_succ, List.length_cons, List.length_nil, Nat.reduceAdd, Nat.reduceLT, Nat.zero_lt_succ, Nat.reduceSub, if_true, ite_tt, ite_ff, Bool.false_eq_true, if_false, in_str, lt_int, le_int, gt_int, ge_int, eq_int, ne_int, eq_bl, ne_bl, len_lst, len_tup, add_int, sub_int, sub_lst, sub_tup, tru_bl, recvM, ne_str hkK.ok (show cOk [66] from rfl), i0, i1, eq_str ok3 ok4, hkv]
      rw [hdic _ rfl]
      simp -implicitDefEqProofs only [rns_cons, rns_nil, sL_cons, sL_nil, eL_cons, eL_nil, rn, ev, evT, evs, evo, evq, evi, evC, bnd_ok, calm_ok, opt_some, nxt_nx, nxt_ret, nxt_brk, nxt_ct, ev_ok, fresh, bindT, bindTs, setSl, Option.map_some, Option.map_none, List.getElem?_cons_zero, List.getElem?_cons_succ, List.set_cons_zero, List.set_cons_succ, List.length_cons, List.length_nil, Nat.reduceAdd, Nat.reduceLT, Nat.zero_lt_succ, Nat.reduceSub, if_true, ite_tt, ite_ff, Bool.false_eq_true, if_false, in_str, lt_int, le_int, gt_int, ge_int, eq_int, ne_int, eq_bl, ne_bl, len_lst, len_tup, add_int, sub_int, sub_lst, sub_tup, tru_bl, recvM, hsub, add_lst hl]
      rw [take_map_one hlv]
      exact ⟨_, .inl rfl, _, _, _, _, _, (by first | exact True.intro | rfl | contradiction | assumption), (by first | exact True.intro | rfl | contradiction | assumption)⟩
    · rintro σ μ2 ⟨a, c, d, e, f, rfl, rfl⟩
      have e2 : ((betw b W).map (levP b)).take (enumL 0 (W.map D.str)).length = (betw b W).map (levP b) := by
        rw [enum_len, List.length_map, List.take_of_length_le (by rw [List.length_map, betw_len]; exact Nat.le_refl _)]
      rw [e2]
      simp -implicitDefEqProofs only [rns_cons, rns_nil, sL_cons, sL_nil, eL_cons, eL_nil, rn, ev, evT, evs, evo, evq, evi, evC, bnd_ok, calm_ok, opt_some, nxt_nx, nxt_ret, nxt_brk, nxt_ct, ev_ok, fresh, bindT, bindTs, setSl, Option.map_some, Option.map_none, List.getElem?_cons_zero, List.getElem?_cons_succ, List.set_cons_zero, List.set_cons_succ, List.length_cons, List.length_nil, Nat.reduceAdd, Nat.reduceLT, Nat.zero_lt_succ, Nat.reduceSub, if_true, ite_tt, ite_ff, Bool.false_eq_true, if_false, in_str, lt_int, le_int, gt_int, ge_int, eq_int, ne_int, eq_bl, ne_bl, len_lst, len_tup, add_int, sub_int, sub_lst, sub_tup, tru_bl, recvM]
      exact ⟨_, .inl rfl, done_dry0 hμ (by simp only [dry]; exact drys_map (fun _ => rfl) _)⟩
end Mi
set_option Elab.async false
set_option linter.all false
set_option maxRecDepth 100000
set_option maxHeartbeats 4000000
/-! P21: orders. -/
namespace Mi
def rv (g : Nat → Bool) : List Nat → List Nat → List Nat
  | run, [] => run
  | run, p :: r => if g p = true then rv g (p :: run) r else run ++ p :: rv g [] r
abbrev RR_ (g : Nat → Bool) (l : List Nat) : List Nat := rv g [] l
def gv (lv : List Int) (m : Int) (p : Nat) : Bool := decide (m ≤ lv.getD p 0)
theorem rv_perm (g : Nat → Bool) : ∀ (l run : List Nat), (rv g run l).Perm (run ++ l)
  | [], run => by simp [rv]
  | p :: r, run => by
    unfold rv
    split
    · exact (rv_perm g r (p :: run)).trans (by simpa using (List.perm_middle (a := p) (l₁ := run) (l₂ := r)).symm)
    · exact List.Perm.append_left run ((rv_perm g r []).cons p)
theorem rv_run (g : Nat → Bool) : ∀ (U run C : List Nat), (∀ p ∈ U, g p = true) → rv g run (U ++ C) = rv g (U.reverse ++ run) C
  | [], _, _, _ => rfl
  | p :: U, run, C, h => by
    rw [List.cons_append]
    unfold rv
    rw [if_pos (h p List.mem_cons_self), rv_run g U (p :: run) C fun q hq => h q (List.mem_cons_of_mem _ hq), List.reverse_cons, List.append_assoc]
    cases C <;> rfl
theorem rv_stop (g : Nat → Bool) (run C : List Nat) (h : ∀ p r, C = p :: r → g p = false) : rv g run C = run ++ rv g [] C := by
  cases C with
  | nil => simp [rv]
  | cons p r =>
    have := h p r rfl
    unfold rv
    rw [this, ite_ff, ite_ff]
    rfl
theorem rv_id (g : Nat → Bool) : ∀ l : List Nat, (∀ p ∈ l, g p = false) → rv g [] l = l
  | [], _ => rfl
  | p :: r, h => by
    unfold rv
    rw [h p List.mem_cons_self, ite_ff, rv_id g r fun q hq => h q (List.mem_cons_of_mem _ hq)]
    rfl
abbrev intz (l : List Nat) : List D := l.map fun (k : Nat) => .int (k : Int)
def lorder (lv : List Int) : List Nat := RR_ (gv lv 1) (RR_ (gv lv 2) (List.range lv.length))
theorem lv_at {lv : List Int} {p : Nat} (h : p < lv.length) : atD (lv.map D.int) (p : Int) = some (.int (lv.getD p 0)) := by
  refine atD_some ?_
  rw [List.getElem?_map, List.getElem?_eq_getElem h]
  simp [List.getD, List.getElem?_eq_getElem h]
theorem f_lorder (n : Nat) (lv : List Int) (μ : Mu) (hμ : drys μ = true) (hl : lv.length ≤ 80) : (K (n + 1)).fn 21 [.lst (lv.map .int)] μ = .ok (.lst (intz (lorder lv))) μ := by
  rw [fn_at (d := dF__law_order) rfl]
  show fun_ (K n) 6 false b__law_order [.lst (lv.map .int)] μ = _
  refine fun_ret [some (.lst (lv.map .int)), none, none, none, none, none] rfl ?_
  unfold b__law_order
  have hn : lv.length < 1000000 := by omega
  have ln : (lv.map D.int).length = lv.length := List.length_map ..
  have hr : rngM [.int (lv.length : Int)] = some (intz (List.range lv.length)) := rng_nat hn
  simp -implicitDefEqProofs only [rns_cons, rns_nil, sL_cons, sL_nil, eL_cons, eL_nil, rn, ev, evT, evs, evo, evq, evi, evC, bnd_ok, calm_ok, opt_some, nxt_nx, nxt_ret, nxt_brk, nxt_ct, ev_ok, fresh, bindT, bindTs, setSl, Option.map_some, Option.map_none, List.getElem?_cons_zero, List.getElem?_cons_succ, List.set_cons_zero, List.set_cons_succ, List.length_cons, List.length_nil, Nat.reduceAdd, Nat.reduceLT, Nat.zero_lt_succ, Nat.reduceSub, if_true, ite_tt, ite_ff, Bool.false_eq_true, if_false, in_str, lt_int, le_int, gt_int, ge_int, eq_int, ne_int, eq_bl, ne_bl, len_lst, len_tup, add_int, sub_int, sub_lst, sub_tup, tru_bl, recvM, ln, hr, seq_lst]
  rw [ev_bnd]
  refine for_inv (fun k σ μ' => ∃ a c d e o, σ = [some (.lst (lv.map .int)), some (.lst (intz o)), a, c, d, e] ∧ μ' = μ ∧ o.Perm (List.range lv.length) ∧ (k = 0 → o = List.range lv.length) ∧ (k = 1 → o = RR_ (gv lv 2) (List.range lv.length)) ∧ (k = 2 → o = lorder lv)) ⟨_, _, _, _, _, rfl, rfl, .refl _, fun _ => rfl, fun h => by omega, fun h => by omega⟩ (fun _ _ _ _ => rfl) ?_ ?_
  · rintro k x σ μ' hx ⟨a, c, d, e, o, rfl, rfl, hp, h0, h1, h2⟩
    obtain ⟨m, rfl, hk, hm⟩ : ∃ m : Int, x = .int m ∧ k < 2 ∧ (k = 0 → m = 2) ∧ (k = 1 → m = 1) := by
      match k, hx with
      | 0, hx => cases hx; exact ⟨2, rfl, by omega, fun _ => rfl, fun h => by omega⟩
      | 1, hx => cases hx; exact ⟨1, rfl, by omega, fun h => by omega, fun _ => rfl⟩
      | k + 2, hx => simp at hx
    rw [turn_1 (by simp)]
    simp -implicitDefEqProofs only [rns_cons, rns_nil, sL_cons, sL_nil, eL_cons, eL_nil, rn, ev, evT, evs, evo, evq, evi, evC, bnd_ok, calm_ok, opt_some, nxt_nx, nxt_ret, nxt_brk, nxt_ct, ev_ok, fresh, bindT, bindTs, setSl, Option.map_some, Option.map_none, List.getElem?_cons_zero, List.getElem?_cons_succ, List.set_cons_zero, List.set_cons_succ, List.length_cons, List.length_nil, Nat.reduceAdd, Nat.reduceLT, Nat.zero_lt_succ, Nat.reduceSub, if_true, ite_tt, ite_ff, Bool.false_eq_true, if_false, in_str, lt_int, le_int, gt_int, ge_int, eq_int, ne_int, eq_bl, ne_bl, len_lst, len_tup, add_int, sub_int, sub_lst, sub_tup, tru_bl, recvM, seq_lst]
    rw [ev_bnd]
    have hlen : o.length = lv.length := by rw [hp.length_eq, List.length_range]
    refine for_ind (fun xs σ μ2 => ∃ F U r q, xs = intz r ∧ σ = [some (.lst (lv.map .int)), some (.lst (intz o)), some (.int m), q, some (.lst (intz F)), some (.lst (intz U))] ∧ μ2 = μ' ∧ F ++ rv (gv lv m) U r = RR_ (gv lv m) o ∧ F.length + U.length + r.length = lv.length ∧ ∀ p ∈ r, p < lv.length) (fun _ _ _ _ => rfl) ?_ ?_ _ _ _ ⟨[], [], o, _, rfl, rfl, rfl, rfl, by simp [hlen], fun p hpo => List.mem_range.mp (hp.mem_iff.mp hpo)⟩
    · rintro x xs σ μ2 ⟨F, U, r, q, hr2, rfl, rfl, hinv, hsum, hlt⟩
      cases r with
      | nil => cases hr2
      | cons p r =>
        have hr2 : x :: xs = D.int (p : Int) :: intz r := hr2
        injection hr2 with e1 e2
        subst e1 e2
        have hpl := hlt p List.mem_cons_self
        rw [turn_1 (by simp)]
        have hg : decide (m ≤ lv.getD p 0) = gv lv m p := rfl
        have l1 : (intz F).length + (intz U).length ≤ LINE := by
          rw [List.length_map, List.length_map]; unfold LINE; simp at hsum; omega
        have l2 : (intz F ++ intz U).length + [D.int (p : Int)].length ≤ LINE := by
          rw [List.length_append, List.length_map, List.length_map]; unfold LINE; simp at hsum ⊢; omega
        have l3 : [D.int (p : Int)].length + (intz U).length ≤ LINE := by
          rw [List.length_map]; unfold LINE; simp at hsum ⊢; omega
        simp -implicitDefEqProofs only [rns_cons, rns_nil, sL_cons, sL_nil, eL_cons, eL_nil, rn, ev, evT, evs, evo, evq, evi, evC, bnd_ok, calm_ok, opt_some, nxt_nx, nxt_ret, nxt_brk, nxt_ct, ev_ok, fresh, bindT, bindTs, setSl, Option.map_some, Option.map_none, List.getElem?_cons_zero, List.getElem?_cons_succ, List.set_cons_zero, List.set_cons_succ, List.length_cons, List.length_nil, Nat.reduceAdd, Nat.reduceLT, Nat.zero_lt_succ, Nat.reduceSub, if_true, ite_tt, ite_ff, Bool.false_eq_true, if_false, in_str, lt_int, le_int, gt_int, ge_int, eq_int, ne_int, eq_bl, ne_bl, len_lst, len_tup, add_int, sub_int, sub_lst, sub_tup, tru_bl, recvM, lv_at hpl, hg]
        have hi2 : F ++ (if gv lv m p = true then rv (gv lv m) (p :: U) r else U ++ p :: rv (gv lv m) [] r) = RR_ (gv lv m) o := hinv
        cases q2 : gv lv m p with
        | true =>
          rw [q2, if_pos rfl] at hi2
          simp -implicitDefEqProofs only [rns_cons, rns_nil, sL_cons, sL_nil, eL_cons, eL_nil, rn, ev, evT, evs, evo, evq, evi, evC, bnd_ok, calm_ok, opt_some, nxt_nx, nxt_ret, nxt_brk, nxt_ct, ev_ok, fresh, bindT, bindTs, setSl, Option.map_some, Option.map_none, List.getElem?_cons_zero, List.getElem?_cons_succ, List.set_cons_zero, List.set_cons_succ, List.length_cons, List.length_nil, Nat.reduceAdd, Nat.reduceLT, Nat.zero_lt_succ, Nat.reduceSub, if_true, ite_tt, ite_ff, Bool.false_eq_true, if_false, in_str, lt_int, le_int, gt_int, ge_int, eq_int, ne_int, eq_bl, ne_bl, len_lst, len_tup, add_int, sub_int, sub_lst, sub_tup, tru_bl, recvM, add_lst l3]
          exact .inl ⟨_, .inl rfl, F, p :: U, r, _, (by first | exact True.intro | rfl | contradiction | assumption), (by first | exact True.intro | rfl | contradiction | assumption), (by first | exact True.intro | rfl | contradiction | assumption), hi2, by simp at hsum ⊢; omega, fun y hy => hlt y (List.mem_cons_of_mem _ hy)⟩
        | false =>
          rw [q2, ite_ff] at hi2
          simp -implicitDefEqProofs only [rns_cons, rns_nil, sL_cons, sL_nil, eL_cons, eL_nil, rn, ev, evT, evs, evo, evq, evi, evC, bnd_ok, calm_ok, opt_some, nxt_nx, nxt_ret, nxt_brk, nxt_ct, ev_ok, fresh, bindT, bindTs, setSl, Option.map_some, Option.map_none, List.getElem?_cons_zero, List.getElem?_cons_succ, List.set_cons_zero, List.set_cons_succ, List.length_cons, List.length_nil, Nat.reduceAdd, Nat.reduceLT, Nat.zero_lt_succ, Nat.reduceSub, if_true, ite_tt, ite_ff, Bool.false_eq_true, if_false, in_str, lt_int, le_int, gt_int, ge_int, eq_int, ne_int, eq_bl, ne_bl, len_lst, len_tup, add_int, sub_int, sub_lst, sub_tup, tru_bl, recvM, add_lst l1, add_lst l2]
          rw [show intz F ++ intz U ++ [D.int (p : Int)] = intz (F ++ U ++ [p]) by simp [intz]]
          exact .inl ⟨_, .inl rfl, F ++ U ++ [p], [], r, _, (by first | exact True.intro | rfl | contradiction | assumption), (by first | exact True.intro | rfl | contradiction | assumption), (by first | exact True.intro | rfl | contradiction | assumption), by rw [← hi2]; simp, by simp at hsum ⊢; omega, fun y hy => hlt y (List.mem_cons_of_mem _ hy)⟩
    · rintro σ μ2 ⟨F, U, r, q, hr2, rfl, rfl, hinv, hsum, hlt⟩
      cases r with
      | cons p r => cases hr2
      | nil =>
        have l1 : (intz F).length + (intz U).length ≤ LINE := by
          rw [List.length_map, List.length_map]; unfold LINE; simp at hsum; omega
        have hFU : F ++ U = RR_ (gv lv m) o := hinv
        simp -implicitDefEqProofs only [rns_cons, rns_nil, sL_cons, sL_nil, eL_cons, eL_nil, rn, ev, evT, evs, evo, evq, evi, evC, bnd_ok, calm_ok, opt_some, nxt_nx, nxt_ret, nxt_brk, nxt_ct, ev_ok, fresh, bindT, bindTs, setSl, Option.map_some, Option.map_none, List.getElem?_cons_zero, List.getElem?_cons_succ, List.set_cons_zero, List.set_cons_succ, List.length_cons, List.length_nil, Nat.reduceAdd, Nat.reduceLT, Nat.zero_lt_succ, Nat.reduceSub, if_true, ite_tt, ite_ff, Bool.false_eq_true, if_false, in_str, lt_int, le_int, gt_int, ge_int, eq_int, ne_int, eq_bl, ne_bl, len_lst, len_tup, add_int, sub_int, sub_lst, sub_tup, tru_bl, recvM, add_lst l1]
        have e : intz F ++ intz U = intz (RR_ (gv lv m) o) := by rw [← hFU]; simp [intz]
        rw [e]
        refine ⟨_, .inl rfl, _, _, _, _, RR_ (gv lv m) o, rfl, (by first | exact True.intro | rfl | contradiction | assumption), ?_, fun z => by omega, fun z => ?_, fun z => ?_⟩
        · exact ((rv_perm _ o []).trans (by simp)).trans hp
        · have : k = 0 := by omega
          rw [h0 this, hm.1 this]
        · have : k = 1 := by omega
          rw [h1 this, hm.2 this]
          rfl
  · rintro σ μ' ⟨a, c, d, e, o, rfl, rfl, hp, h0, h1, h2⟩
    rw [h2 rfl]
    simp -implicitDefEqProofs only [rns_cons, rns_nil, sL_cons, sL_nil, eL_cons, eL_nil, rn, ev, evT, evs, evo, evq, evi, evC, bnd_ok, calm_ok, opt_some, nxt_nx, nxt_ret, nxt_brk, nxt_ct, ev_ok, fresh, bindT, bindTs, setSl, Option.map_some, Option.map_none, List.getElem?_cons_zero, List.getElem?_cons_succ, List.set_cons_zero, List.set_cons_succ, List.length_cons, List.length_nil, Nat.reduceAdd, Nat.reduceLT, Nat.zero_lt_succ, Nat.reduceSub, if_true, ite_tt, ite_ff, Bool.false_eq_true, if_false, in_str, lt_int, le_int, gt_int, ge_int, eq_int, ne_int, eq_bl, ne_bl, len_lst, len_tup, add_int, sub_int, sub_lst, sub_tup, tru_bl, recvM]
    exact ⟨_, .inl rfl, done_dry0 hμ (by simp only [dry]; exact drys_map (fun _ => rfl) _)⟩
theorem anyR_no {ws : Wt} {f : D → Mu → R (Option D)} {μ : Mu} (hw : wOk ws μ = true) : ∀ {xs : List D}, (∀ x ∈ xs, f x μ = .ok (some (.bl false)) μ) → anyR true ws f xs μ = .ok false μ
  | [], _ => by unfold anyR; rw [if_pos hw]; rfl
  | x :: xs, h => by
    unfold anyR
    rw [if_pos hw, h x List.mem_cons_self, bnd_ok]
    exact anyR_no hw fun y hy => h y (List.mem_cons_of_mem _ hy)
theorem rngL_dn {lo hi : Int} (h1 : small lo = true) (h2 : small hi = true) (h3 : decide (lo.natAbs < 1000000) = true) (h4 : decide (hi.natAbs < 1000000) = true) : rngL lo hi (-1) = some ((List.range (lo - hi).toNat).map fun (k : Nat) => .int (lo - k)) := by
  have e : ((-1 : Int) == 1) = false := rfl
  unfold rngL
  simp only [h1, h2, h3, h4, Bool.and_self, if_true, e, Bool.false_eq_true, if_false, beq_self_eq_true]
theorem rngL_down {m : Nat} (h : m < 1000000) : rngM [.int (m : Int), .int 0, .int (-1)] = some ((List.range m).map fun (k : Nat) => .int ((m : Int) - k)) := by
  have e := rngL_dn (lo := (m : Int)) (hi := 0) (small_nat (by omega) (by omega)) (by decide) (decide_eq_true (by omega)) (by decide)
  rw [show ((m : Int) - 0).toNat = m by omega] at e
  have e0 : rngM [.int (m : Int), .int 0, .int (-1)] = rngL (m : Int) 0 (-1) := by
    unfold rngM
    simp only [beq_self_eq_true, if_true]
  exact e0.trans e
/-- the greatest level -/
def top (lv : List Int) : Nat := match lv ++ [0] with
  | x :: r => (maxI x r).toNat
  | [] => 0
theorem top_ok {lv : List Int} (h : ∀ x ∈ lv, 0 ≤ x) : bltM .max [] [.lst (lv.map D.int ++ [.int 0])] = some (.int (top lv : Int)) ∧ (∀ x ∈ lv, x ≤ (top lv : Int)) ∧ (top lv = 0 ∨ (top lv : Int) ∈ lv) := by
  have e0 : lv.map D.int ++ [.int 0] = (lv ++ [0]).map .int := by simp
  rw [e0]
  cases hq : lv ++ [0] with
  | nil => simp at hq
  | cons x r =>
    have mm := maxI_mem r x
    have hm : maxI x r ∈ lv ++ [0] := hq ▸ mm.1
    have hpos : 0 ≤ maxI x r := by
      rcases List.mem_append.mp hm with z | z
      · exact h _ z
      · simp at z; omega
    have ht : ((top lv : Nat) : Int) = maxI x r := by
      unfold top
      rw [hq]
      show (((maxI x r).toNat : Nat) : Int) = _
      omega
    refine ⟨?_, fun y hy => ?_, ?_⟩
    · rw [ht]
      show (match ((lstOf [] (.lst ((x :: r).map D.int))).bind toInts) with
        | some (n :: ns) => some (D.int (maxI n ns))
        | _ => none) = _
      show (match toInts ((x :: r).map D.int) with
        | some (n :: ns) => some (D.int (maxI n ns))
        | _ => none) = _
      rw [toInts_map]
    · rw [ht]
      exact mm.2 y (hq ▸ List.mem_append_left _ hy)
    · rcases List.mem_append.mp hm with z | z
      · exact .inr (by rw [ht]; exact z)
      · left
        simp at z
        omega
theorem max_any {μ : Mu} {xs : List D} {v : D} (h : bltM .max [] [.lst xs] = some v) : bltM .max μ [.lst xs] = some v := h
/-- the order that the program makes -/
def sord (lv : List Int) : Nat → List Nat
  | 0 => List.range lv.length
  | k + 1 => RR_ (gv lv ((top lv : Int) - k)) (sord lv k)
def sorder (lv : List Int) : List Nat := sord lv (top lv)
theorem sord_perm (lv : List Int) : ∀ k, (sord lv k).Perm (List.range lv.length)
  | 0 => .refl _
  | k + 1 => ((rv_perm _ _ []).trans (by simp)).trans (sord_perm lv k)
theorem f_sorder (n : Nat) (L : D) (lv : List Int) (μ : Mu) (hμ : drys μ = true) (hl : lv.length ≤ 80) (h0 : ∀ x ∈ lv, 0 ≤ x) (ht : top lv ≤ 1000)
    (hsub : ∀ μ i, subM μ L (.int i) = atD (lv.map .int) i) (hseq : ∀ μ, seqIt μ L = some (lv.map .int, [])) (hlen : ∀ μ, bltM .len μ [L] = some (.int lv.length)) (hls : ∀ μ, lsofM μ L = some (lv.map .int)) :
    (K (n + 1)).fn 6 [L] μ = .ok (.tup true (intz (sorder lv))) μ := by
  rw [fn_at (d := dF_seen_order) rfl]
  show fun_ (K n) 5 false b_seen_order [L] μ = _
  refine fun_ret [some L, none, none, none, none] rfl ?_
  unfold b_seen_order
  have hn : lv.length < 1000000 := by omega
  have hr : rngM [.int (lv.length : Int)] = some (intz (List.range lv.length)) := rng_nat hn
  obtain ⟨t1, t2, t3⟩ := top_ok h0
  have any : ∀ f : D → Mu → R (Option D), (∀ x ∈ lv, f (.int x) μ = .ok (some (.bl false)) μ) → anyR true [] f (lv.map .int) μ = .ok false μ := fun f hf => anyR_no rfl fun y hy => by
    obtain ⟨x, hx, rfl⟩ := List.mem_map.mp hy
    exact hf x hx
  simp -implicitDefEqProofs only [rns_cons, rns_nil, sL_cons, sL_nil, eL_cons, eL_nil, rn, ev, evT, evs, evo, evq, evi, evC, bnd_ok, calm_ok, opt_some, nxt_nx, nxt_ret, nxt_brk, nxt_ct, ev_ok, fresh, bindT, bindTs, setSl, Option.map_some, Option.map_none, List.getElem?_cons_zero, List.getElem?_cons_succ, List.set_cons_zero, List.set_cons_succ, List.length_cons, List.length_nil, Nat.reduceAdd, Nat.reduceLT, Nat.zero_lt_succ, Nat.reduceSub, if_true, ite_tt, ite_ff, Bool.false_eq_true, if_false, in_str, lt_int, le_int, gt_int, ge_int, eq_int, ne_int, eq_bl, ne_bl, len_lst, len_tup, add_int, sub_int, sub_lst, sub_tup, tru_bl, recvM, hseq, genF]
  rw [any _ fun x hx => by
    rw [turnM_1 (by simp)]
    simp -implicitDefEqProofs only [rns_cons, rns_nil, sL_cons, sL_nil, eL_cons, eL_nil, rn, ev, evT, evs, evo, evq, evi, evC, bnd_ok, calm_ok, opt_some, nxt_nx, nxt_ret, nxt_brk, nxt_ct, ev_ok, fresh, bindT, bindTs, setSl, Option.map_some, Option.map_none, List.getElem?_cons_zero, List.getElem?_cons_succ, List.set_cons_zero, List.set_cons_succ, List.length_cons, List.length_nil, Nat.reduceAdd, Nat.reduceLT, Nat.zero_lt_succ, Nat.reduceSub, if_true, ite_tt, ite_ff, Bool.false_eq_true, if_false, in_str, lt_int, le_int, gt_int, ge_int, eq_int, ne_int, eq_bl, ne_bl, len_lst, len_tup, add_int, sub_int, sub_lst, sub_tup, tru_bl, recvM, decide_eq_false (show ¬ x < 0 by have := h0 x hx; omega)]]
  have l1 : (lv.map D.int).length + [D.int 0].length ≤ LINE := by rw [List.length_map]; unfold LINE; simp; omega
  have z1 : ((0 : Int) - 1) = -1 := by omega
  simp -implicitDefEqProofs only [rns_cons, rns_nil, sL_cons, sL_nil, eL_cons, eL_nil, rn, ev, evT, evs, evo, evq, evi, evC, bnd_ok, calm_ok, opt_some, nxt_nx, nxt_ret, nxt_brk, nxt_ct, ev_ok, fresh, bindT, bindTs, setSl, Option.map_some, Option.map_none, List.getElem?_cons_zero, List.getElem?_cons_succ, List.set_cons_zero, List.set_cons_succ, List.length_cons, List.length_nil, Nat.reduceAdd, Nat.reduceLT, Nat.zero_lt_succ, Nat.reduceSub, if_true, ite_tt, ite_ff, Bool.false_eq_true, if_false, in_str, lt_int, le_int, gt_int, ge_int, eq_int, ne_int, eq_bl, ne_bl, len_lst, len_tup, add_int, sub_int, sub_lst, sub_tup, tru_bl, recvM, hlen, hr, hls, add_lst l1, max_any t1, z1, rngL_down (show top lv < 1000000 by omega)]
  rw [ev_bnd]
  have cell : ∀ o : List Nat, (μ ++ [D.lst (intz o)])[μ.length]? = some (.lst (intz o)) := fun o => at_app
  refine for_inv (fun k σ μ' => ∃ a c d, σ = [some L, some (.ref μ.length), a, c, d] ∧ μ' = μ ++ [.lst (intz (sord lv k))]) ⟨_, _, _, rfl, rfl⟩ (fun _ _ _ _ => rfl) ?_ ?_
  · rintro k x σ μ' hx ⟨a, c, d, rfl, rfl⟩
    have hk : k < top lv := by simpa using (List.getElem?_eq_some_iff.mp hx).1
    have hx2 : x = .int ((top lv : Int) - k) := by
      rw [List.getElem?_map, List.getElem?_range hk] at hx
      exact (Option.some.inj hx).symm
    subst hx2
    rw [turn_1 (by simp)]
    generalize hm : ((top lv : Int) - k) = m
    have hperm := sord_perm lv k
    have hs1 : sord lv (k + 1) = RR_ (gv lv m) (sord lv k) := by rw [← hm]; rfl
    rw [hs1]
    generalize sord lv k = o at hperm
    have hol : o.length = lv.length := by rw [hperm.length_eq, List.length_range]
    simp -implicitDefEqProofs only [rns_cons, rns_nil, sL_cons, sL_nil, eL_cons, eL_nil, rn, ev, evT, evs, evo, evq, evi, evC, bnd_ok, calm_ok, opt_some, nxt_nx, nxt_ret, nxt_brk, nxt_ct, ev_ok, fresh, bindT, bindTs, setSl, Option.map_some, Option.map_none, List.getElem?_cons_zero, List.getElem?_cons_succ, List.set_cons_zero, List.set_cons_succ, List.length_cons, List.length_nil, Nat.reduceAdd, Nat.reduceLT, Nat.zero_lt_succ, Nat.reduceSub, if_true, ite_tt, ite_ff, Bool.false_eq_true, if_false, in_str, lt_int, le_int, gt_int, ge_int, eq_int, ne_int, eq_bl, ne_bl, len_lst, len_tup, add_int, sub_int, sub_lst, sub_tup, tru_bl, recvM]
    rw [ev_bnd]
    refine whl_inv (fun j σ μ' => ∃ d A B, σ = [some L, some (.ref μ.length), some (.int m), some (.int (A.length : Nat)), d] ∧ μ' = μ ++ [.lst (intz (A ++ B))] ∧ j = B.length ∧ A ++ RR_ (gv lv m) B = RR_ (gv lv m) o ∧ (A ++ B).Perm o) ?_ FUEL o.length _ _ (by unfold FUEL; omega) ⟨_, [], o, rfl, rfl, rfl, rfl, .refl _⟩
    rintro j σ μ' ⟨d, A, B, rfl, rfl, rfl, hinv, hp⟩
    have hlen2 : (intz (A ++ B)).length = A.length + B.length := by simp [intz]
    simp -implicitDefEqProofs only [rns_cons, rns_nil, sL_cons, sL_nil, eL_cons, eL_nil, rn, ev, evT, evs, evo, evq, evi, evC, bnd_ok, calm_ok, opt_some, nxt_nx, nxt_ret, nxt_brk, nxt_ct, ev_ok, fresh, bindT, bindTs, setSl, Option.map_some, Option.map_none, List.getElem?_cons_zero, List.getElem?_cons_succ, List.set_cons_zero, List.set_cons_succ, List.length_cons, List.length_nil, Nat.reduceAdd, Nat.reduceLT, Nat.zero_lt_succ, Nat.reduceSub, if_true, ite_tt, ite_ff, Bool.false_eq_true, if_false, in_str, lt_int, le_int, gt_int, ge_int, eq_int, ne_int, eq_bl, ne_bl, len_lst, len_tup, add_int, sub_int, sub_lst, sub_tup, tru_bl, recvM, len_cell (cell (A ++ B)), hlen2]
    have hABn : A.length + B.length = lv.length := by rw [← hol, ← hp.length_eq, List.length_append]
    have hltn : ∀ p ∈ A ++ B, p < lv.length := fun p hpm => List.mem_range.mp (hperm.mem_iff.mp (hp.mem_iff.mp hpm))
    refine ⟨fun hc => ?_, fun hc => ?_⟩
    · have hB : B ≠ [] := fun z => by
        subst z
        have := of_decide_eq_true hc
        simp at this
      rw [ev_bnd]
      refine Ev.mono (P := fun fl μ' => ∃ U C, fl = .nx [some L, some (.ref μ.length), some (.int m), some (.int (A.length : Nat)), some (.int ((A.length + U.length : Nat) : Int))] ∧ μ' = μ ++ [.lst (intz (A ++ B))] ∧ B = U ++ C ∧ (∀ p ∈ U, gv lv m p = true) ∧ ∀ p r, C = p :: r → gv lv m p = false)
        (whl_inv (fun j σ μ' => ∃ U C, σ = [some L, some (.ref μ.length), some (.int m), some (.int (A.length : Nat)), some (.int ((A.length + U.length : Nat) : Int))] ∧ μ' = μ ++ [.lst (intz (A ++ B))] ∧ B = U ++ C ∧ (∀ p ∈ U, gv lv m p = true) ∧ j = C.length) ?_ FUEL B.length _ _ (by unfold FUEL; omega) ⟨[], B, rfl, rfl, rfl, fun p h => absurd h List.not_mem_nil, rfl⟩) ?_
      · rintro j σ μ' ⟨U, C, rfl, rfl, rfl, hU, rfl⟩
        simp -implicitDefEqProofs only [rns_cons, rns_nil, sL_cons, sL_nil, eL_cons, eL_nil, rn, ev, evT, evs, evo, evq, evi, evC, bnd_ok, calm_ok, opt_some, nxt_nx, nxt_ret, nxt_brk, nxt_ct, ev_ok, fresh, bindT, bindTs, setSl, Option.map_some, Option.map_none, List.getElem?_cons_zero, List.getElem?_cons_succ, List.set_cons_zero, List.set_cons_succ, List.length_cons, List.length_nil, Nat.reduceAdd, Nat.reduceLT, Nat.zero_lt_succ, Nat.reduceSub, if_true, ite_tt, ite_ff, Bool.false_eq_true, if_false, in_str, lt_int, le_int, gt_int, ge_int, eq_int, ne_int, eq_bl, ne_bl, len_lst, len_tup, add_int, sub_int, sub_lst, sub_tup, tru_bl, recvM, len_cell (cell (A ++ (U ++ C))), hlen2]
        cases C with
        | nil =>
          have e : decide (((A.length + U.length : Nat) : Int) < ((A.length + (U ++ []).length : Nat) : Int)) = false := decide_eq_false (by simp)
          simp -implicitDefEqProofs only [rns_cons, rns_nil, sL_cons, sL_nil, eL_cons, eL_nil, rn, ev, evT, evs, evo, evq, evi, evC, bnd_ok, calm_ok, opt_some, nxt_nx, nxt_ret, nxt_brk, nxt_ct, ev_ok, fresh, bindT, bindTs, setSl, Option.map_some, Option.map_none, List.getElem?_cons_zero, List.getElem?_cons_succ, List.set_cons_zero, List.set_cons_succ, List.length_cons, List.length_nil, Nat.reduceAdd, Nat.reduceLT, Nat.zero_lt_succ, Nat.reduceSub, if_true, ite_tt, ite_ff, Bool.false_eq_true, if_false, in_str, lt_int, le_int, gt_int, ge_int, eq_int, ne_int, eq_bl, ne_bl, len_lst, len_tup, add_int, sub_int, sub_lst, sub_tup, tru_bl, recvM, e]
          exact ⟨fun z => (by first | exact True.intro | cases z), fun _ => ⟨U, [], (by first | exact True.intro | rfl | contradiction | assumption), (by first | exact True.intro | rfl | contradiction | assumption), (by first | exact True.intro | rfl | contradiction | assumption), hU, fun p r z => by cases z⟩⟩
        | cons c C =>
          have e : decide (((A.length + U.length : Nat) : Int) < ((A.length + (U ++ c :: C).length : Nat) : Int)) = true := decide_eq_true (by simp; omega)
          have a1 : atD (intz (A ++ (U ++ c :: C))) ((A.length + U.length : Nat) : Int) = some (.int (c : Int)) := atD_some (by
            rw [List.getElem?_map, ← List.append_assoc, List.getElem?_append_right (by simp)]
            simp)
          have hc2 : c < lv.length := hltn c (by simp)
          have hg : decide (m ≤ lv.getD c 0) = gv lv m c := rfl
          simp -implicitDefEqProofs only [rns_cons, rns_nil, sL_cons, sL_nil, eL_cons, eL_nil, rn, ev, evT, evs, evo, evq, evi, evC, bnd_ok, calm_ok, opt_some, nxt_nx, nxt_ret, nxt_brk, nxt_ct, ev_ok, fresh, bindT, bindTs, setSl, Option.map_some, Option.map_none, List.getElem?_cons_zero, List.getElem?_cons_succ, List.set_cons_zero, List.set_cons_succ, List.length_cons, List.length_nil, Nat.reduceAdd, Nat.reduceLT, Nat.zero_lt_succ, Nat.reduceSub, if_true, ite_tt, ite_ff, Bool.false_eq_true, if_false, in_str, lt_int, le_int, gt_int, ge_int, eq_int, ne_int, eq_bl, ne_bl, len_lst, len_tup, add_int, sub_int, sub_lst, sub_tup, tru_bl, recvM, e, sub_ref (cell (A ++ (U ++ c :: C))), a1, hsub, lv_at hc2, hg]
          refine ⟨fun z => ?_, fun z => ?_⟩
          · unfold augM
            simp -implicitDefEqProofs only [rns_cons, rns_nil, sL_cons, sL_nil, eL_cons, eL_nil, rn, ev, evT, evs, evo, evq, evi, evC, bnd_ok, calm_ok, opt_some, nxt_nx, nxt_ret, nxt_brk, nxt_ct, ev_ok, fresh, bindT, bindTs, setSl, Option.map_some, Option.map_none, List.getElem?_cons_zero, List.getElem?_cons_succ, List.set_cons_zero, List.set_cons_succ, List.length_cons, List.length_nil, Nat.reduceAdd, Nat.reduceLT, Nat.zero_lt_succ, Nat.reduceSub, if_true, ite_tt, ite_ff, Bool.false_eq_true, if_false, in_str, lt_int, le_int, gt_int, ge_int, eq_int, ne_int, eq_bl, ne_bl, len_lst, len_tup, add_int, sub_int, sub_lst, sub_tup, tru_bl, recvM]
            refine ⟨_, C.length, .inl rfl, by simp, U ++ [c], C, ?_, (by first | exact True.intro | rfl | contradiction | assumption), by simp, fun p hpm => ?_, rfl⟩
            · simp
              omega
            · rcases List.mem_append.mp hpm with y | y
              · exact hU p y
              · simp at y; rw [y]; exact z
          · exact ⟨U, c :: C, (by first | exact True.intro | rfl | contradiction | assumption), (by first | exact True.intro | rfl | contradiction | assumption), (by first | exact True.intro | rfl | contradiction | assumption), hU, fun p r y => by cases y; exact z⟩
      · rintro fl μ' ⟨U, C, rfl, rfl, rfl, hU, hC⟩
        have k1 : A.length ≤ (intz (A ++ (U ++ C))).length := by rw [hlen2]; omega
        have k2 : A.length + U.length ≤ (intz (A ++ (U ++ C))).length := by rw [hlen2]; simp
        have sl : slcM (μ ++ [D.lst (intz (A ++ (U ++ C)))]) (.ref μ.length) (some (A.length : Int)) (some ((A.length + U.length : Nat) : Int)) = some (.lst (intz U)) := by
          have e1 : slcM (μ ++ [D.lst (intz (A ++ (U ++ C)))]) (.ref μ.length) (some (A.length : Int)) (some ((A.length + U.length : Nat) : Int)) = slcM (μ ++ [D.lst (intz (A ++ (U ++ C)))]) (.lst (intz (A ++ (U ++ C)))) (some (A.length : Int)) (some ((A.length + U.length : Nat) : Int)) := by
            unfold slcM
            rw [view_cell (cell _)]
            rfl
          rw [e1, slc_lh k1 k2]
          simp [intz, ← List.map_drop, ← List.map_take]
        have rvv : ∀ μ, revM μ (.lst (intz U)) = some (.lst (intz U.reverse)) := fun μ => by
          show some (D.lst (intz U).reverse) = _
          simp [intz]
        have cut : cutM (μ ++ [D.lst (intz (A ++ (U ++ C)))]) (.ref μ.length) (A.length : Int) ((A.length + U.length : Nat) : Int) (.lst (intz U.reverse)) = some (μ ++ [.lst (intz (A ++ U.reverse ++ C))]) := by
          have g : (decide (0 ≤ (A.length : Int)) && decide ((A.length : Int) ≤ ((A.length + U.length : Nat) : Int)) && decide (((A.length + U.length : Nat) : Int) ≤ (intz (A ++ (U ++ C))).length) && decide ((intz (A ++ (U ++ C))).length + (intz U.reverse).length ≤ LINE)) = true := by
            rw [hlen2]
            simp only [Bool.and_eq_true, decide_eq_true_eq]
            simp [intz] at hABn ⊢
            unfold LINE
            omega
          unfold cutM
          simp only [sameCell, lstOf, view, cell (A ++ (U ++ C)), g, if_true, Bool.false_eq_true, if_false, set_app, Int.toNat_natCast]
          have e9 : (intz (A ++ (U ++ C))).take A.length ++ intz U.reverse ++ (intz (A ++ (U ++ C))).drop (A.length + U.length) = intz (A ++ U.reverse ++ C) := by
            simp [intz, ← List.map_take, ← List.map_drop, List.take_append, List.drop_append]
          rw [e9]
        have hRR : RR_ (gv lv m) (U ++ C) = U.reverse ++ RR_ (gv lv m) C := by
          show rv (gv lv m) [] (U ++ C) = _
          rw [rv_run _ _ _ _ hU, rv_stop _ _ _ hC, List.append_nil]
        have mx2 : ∀ (a b : Int) (μ : Mu), bltM .max μ [.int a, .int b] = some (.int (if b > a then b else a)) := fun _ _ _ => rfl
        simp -implicitDefEqProofs only [rns_cons, rns_nil, sL_cons, sL_nil, eL_cons, eL_nil, rn, ev, evT, evs, evo, evq, evi, evC, bnd_ok, calm_ok, opt_some, nxt_nx, nxt_ret, nxt_brk, nxt_ct, ev_ok, fresh, bindT, bindTs, setSl, Option.map_some, Option.map_none, List.getElem?_cons_zero, List.getElem?_cons_succ, List.set_cons_zero, List.set_cons_succ, List.length_cons, List.length_nil, Nat.reduceAdd, Nat.reduceLT, Nat.zero_lt_succ, Nat.reduceSub, if_true, ite_tt, ite_ff, Bool.false_eq_true, if_false, in_str, lt_int, le_int, gt_int, ge_int, eq_int, ne_int, eq_bl, ne_bl, len_lst, len_tup, add_int, sub_int, sub_lst, sub_tup, tru_bl, recvM, evo, sl, rvv, cut, mx2]
        cases U with
        | nil =>
          cases C with
          | nil => exact absurd rfl hB
          | cons c C =>
            have hgc := hC c C rfl
            have e : (if (A.length : Int) + 1 > ((A.length + ([] : List Nat).length : Nat) : Int) then (A.length : Int) + 1 else ((A.length + ([] : List Nat).length : Nat) : Int)) = (((A ++ [c]).length : Nat) : Int) := by
              rw [if_pos (by simp; omega)]
              simp
            rw [e]
            refine ⟨_, C.length, .inl rfl, by simp, _, A ++ [c], C, (by first | exact True.intro | rfl | contradiction | assumption), by simp, rfl, ?_, by simpa using hp⟩
            rw [← hinv]
            have : RR_ (gv lv m) ([] ++ c :: C) = c :: RR_ (gv lv m) C := by
              show (if gv lv m c = true then rv (gv lv m) [c] C else [] ++ c :: rv (gv lv m) [] C) = _
              rw [hgc, ite_ff]
              rfl
            rw [this]
            simp
        | cons u U =>
          have e : (if (A.length : Int) + 1 > ((A.length + (u :: U).length : Nat) : Int) then (A.length : Int) + 1 else ((A.length + (u :: U).length : Nat) : Int)) = (((A ++ (u :: U).reverse).length : Nat) : Int) := by
            rw [if_neg (by simp; omega)]
            simp
          rw [e]
          refine ⟨_, C.length, .inl rfl, by simp; omega, _, A ++ (u :: U).reverse, C, (by first | exact True.intro | rfl | contradiction | assumption), (by first | exact True.intro | rfl | contradiction | assumption), rfl, ?_, ?_⟩
          · rw [← hinv, hRR, List.append_assoc]
          · refine List.Perm.trans ?_ hp
            rw [List.append_assoc]
            exact List.Perm.append_left A ((List.reverse_perm (u :: U)).append_right C)
    · have hB : B = [] := by
        cases B with
        | nil => rfl
        | cons b B =>
          have := of_decide_eq_false hc
          simp at this
          omega
      subst hB
      have hA : A = RR_ (gv lv m) o := by
        rw [← hinv]
        simp [RR_, rv]
      exact ⟨_, .inl rfl, _, _, _, rfl, by rw [List.append_nil, ← hA]⟩
  · rintro σ μ' ⟨a, c, d, rfl, rfl⟩
    have e : ((List.range (top lv)).map fun (k : Nat) => D.int ((top lv : Int) - k)).length = top lv := by simp
    rw [e]
    simp -implicitDefEqProofs only [rns_cons, rns_nil, sL_cons, sL_nil, eL_cons, eL_nil, rn, ev, evT, evs, evo, evq, evi, evC, bnd_ok, calm_ok, opt_some, nxt_nx, nxt_ret, nxt_brk, nxt_ct, ev_ok, fresh, bindT, bindTs, setSl, Option.map_some, Option.map_none, List.getElem?_cons_zero, List.getElem?_cons_succ, List.set_cons_zero, List.set_cons_succ, List.length_cons, List.length_nil, Nat.reduceAdd, Nat.reduceLT, Nat.zero_lt_succ, Nat.reduceSub, if_true, ite_tt, ite_ff, Bool.false_eq_true, if_false, in_str, lt_int, le_int, gt_int, ge_int, eq_int, ne_int, eq_bl, ne_bl, len_lst, len_tup, add_int, sub_int, sub_lst, sub_tup, tru_bl, recvM, tup_cell (cell (sord lv (top lv)))]
    exact ⟨_, .inl rfl, done_dry hμ (by simp only [dry]; exact drys_map (fun _ => rfl) _)⟩
end Mi
set_option Elab.async false
set_option linter.all false
set_option maxRecDepth 100000
set_option maxHeartbeats 4000000
/-! P22: the two orders are one; what is seen. -/
namespace Mi
theorem sorder_eq {lv : List Int} (h : ∀ x ∈ lv, 0 ≤ x ∧ x ≤ 2) : sorder lv = lorder lv := by
  obtain ⟨t1, t2, t3⟩ := top_ok fun x hx => (h x hx).1
  have ht : top lv ≤ 2 := by
    rcases t3 with z | z
    · omega
    · have := (h _ z).2; omega
  have hle : ∀ p, p < lv.length → lv.getD p 0 ≤ (top lv : Int) := fun p hp => by
    have e : lv.getD p 0 = lv[p] := by simp [List.getD, List.getElem?_eq_getElem hp]
    rw [e]
    exact t2 _ (List.getElem_mem hp)
  have idm : ∀ (m : Int) (o : List Nat), (top lv : Int) < m → (∀ p ∈ o, p < lv.length) → RR_ (gv lv m) o = o := fun m o hm ho => rv_id _ _ fun p hp => by
    unfold gv
    have := hle p (ho p hp)
    exact decide_eq_false (by omega)
  have hr : ∀ p ∈ List.range lv.length, p < lv.length := fun p hp => List.mem_range.mp hp
  unfold sorder lorder
  have c : top lv = 0 ∨ top lv = 1 ∨ top lv = 2 := by omega
  rcases c with c | c | c
  · rw [c, idm 2 _ (by omega) hr, idm 1 _ (by omega) hr]
    rfl
  · rw [c, idm 2 _ (by omega) hr]
    show RR_ (gv lv ((top lv : Int) - ((0 : Nat) : Int))) (List.range lv.length) = _
    rw [c]
    rfl
  · rw [c]
    show RR_ (gv lv ((top lv : Int) - ((1 : Nat) : Int))) (RR_ (gv lv ((top lv : Int) - ((0 : Nat) : Int))) (List.range lv.length)) = _
    rw [c]
    rfl
theorem rv_all (g : Nat → Bool) : ∀ (l run : List Nat), (∀ p ∈ l, g p = true) → rv g run l = l.reverse ++ run
  | [], run, _ => rfl
  | p :: r, run, h => by
    unfold rv
    rw [if_pos (h p List.mem_cons_self), rv_all g r _ fun q hq => h q (List.mem_cons_of_mem _ hq), List.reverse_cons, List.append_assoc]
    rfl
theorem sorder_same {lv : List Int} {c : Nat} (h : ∀ x ∈ lv, x = (c : Int)) (hne : lv ≠ []) : sorder lv = if c % 2 = 0 then List.range lv.length else (List.range lv.length).reverse := by
  obtain ⟨t1, t2, t3⟩ := top_ok (lv := lv) fun x hx => by rw [h x hx]; omega
  have ht : top lv = c := by
    rcases t3 with z | z
    · obtain ⟨x, hx⟩ := List.exists_mem_of_ne_nil lv hne
      have := t2 x hx
      rw [h x hx] at this
      omega
    · have := h _ z; omega
  have key : ∀ k, k ≤ c → sord lv k = if k % 2 = 0 then List.range lv.length else (List.range lv.length).reverse := by
    intro k
    induction k with
    | zero => intro _; rfl
    | succ k ih =>
      intro hk
      have ih := ih (by omega)
      have hp := sord_perm lv k
      have e : sord lv (k + 1) = (sord lv k).reverse := by
        show rv _ [] (sord lv k) = _
        rw [rv_all _ _ _ fun p hpm => ?_, List.append_nil]
        have hpl : p < lv.length := List.mem_range.mp (hp.mem_iff.mp hpm)
        have e : lv.getD p 0 = (c : Int) := by
          have e : lv.getD p 0 = lv[p] := by simp [List.getD, List.getElem?_eq_getElem hpl]
          rw [e]
          exact h _ (List.getElem_mem hpl)
        unfold gv
        rw [e]
        exact decide_eq_true (by omega)
      rw [e, ih]
      by_cases q : k % 2 = 0
      · rw [if_pos q, if_neg (by omega)]
      · rw [if_neg q, if_pos (by omega), List.reverse_reverse]
  unfold sorder
  rw [ht, key c (Nat.le_refl _)]
theorem levP_le {b : Int} (hb : b = 0 ∨ b = 1) (k : T) : 0 ≤ levP b k ∧ levP b k ≤ 2 := by
  unfold levP
  split
  · omega
  split
  · split <;> omega
  split
  · omega
  · omega
theorem levels_le {b : Int} (hb : b = 0 ∨ b = 1) (t : T) : ∀ x ∈ levels b t, 0 ≤ x ∧ x ≤ 2 := fun x hx => by
  obtain ⟨k, _, rfl⟩ := List.mem_map.mp hx
  exact levP_le hb k
theorem top_le {lv : List Int} {m : Nat} (h : ∀ x ∈ lv, 0 ≤ x ∧ x ≤ (m : Int)) : top lv ≤ m := by
  obtain ⟨t1, t2, t3⟩ := top_ok fun x hx => (h x hx).1
  rcases t3 with z | z
  · omega
  · have := (h _ z).2; omega
/-- seen_order of a tuple, of a list -/
theorem f_ord_tup (n : Nat) (lv : List Int) (k : Bool) (μ : Mu) (hμ : drys μ = true) (hl : lv.length ≤ 80) (h0 : ∀ x ∈ lv, 0 ≤ x ∧ x ≤ (4 : Nat)) : (K (n + 1)).fn 6 [.tup k (lv.map .int)] μ = .ok (.tup true (intz (sorder lv))) μ :=
  f_sorder n _ lv μ hμ hl (fun x hx => (h0 x hx).1) (Nat.le_trans (top_le h0) (by decide)) (fun _ _ => rfl) (fun _ => rfl) (fun _ => by rw [len_tup, List.length_map]) fun _ => rfl
theorem f_ord_lst (n : Nat) (lv : List Int) (μ : Mu) (hμ : drys μ = true) (hl : lv.length ≤ 80) (h0 : ∀ x ∈ lv, 0 ≤ x ∧ x ≤ (4 : Nat)) : (K (n + 1)).fn 6 [.lst (lv.map .int)] μ = .ok (.tup true (intz (sorder lv))) μ :=
  f_sorder n _ lv μ hμ hl (fun x hx => (h0 x hx).1) (Nat.le_trans (top_le h0) (by decide)) (fun _ _ => rfl) (fun _ => rfl) (fun _ => by rw [len_lst, List.length_map]) fun _ => rfl
/-! ### what is seen -/
def turnC (c : Nat) : Nat := if c = 40 then 41 else if c = 41 then 40 else if c = 91 then 93 else if c = 93 then 91 else if c = 60 then 62 else if c = 62 then 60 else c
abbrev tKs : List D := [.str [40], .str [41], .str [91], .str [93], .str [60], .str [62]]
abbrev tVs : List D := [.str [41], .str [40], .str [93], .str [91], .str [62], .str [60]]
theorem getK_turn (c : Nat) : (getK (.str [c]) tKs tVs).getD (.str [c]) = .str [turnC c] := by
  have e : getK (.str [c]) tKs tVs = if ([40] : T) == [c] then some (.str [41]) else if ([41] : T) == [c] then some (.str [40]) else if ([91] : T) == [c] then some (.str [93]) else if ([93] : T) == [c] then some (.str [91]) else if ([60] : T) == [c] then some (.str [62]) else if ([62] : T) == [c] then some (.str [60]) else none := rfl
  rw [e]
  unfold turnC
  by_cases h1 : c = 40
  · subst h1; rfl
  by_cases h2 : c = 41
  · subst h2; rfl
  by_cases h3 : c = 91
  · subst h3; rfl
  by_cases h4 : c = 93
  · subst h4; rfl
  by_cases h5 : c = 60
  · subst h5; rfl
  by_cases h6 : c = 62
  · subst h6; rfl
  have nn : ∀ x : Nat, ¬ c = x → (([x] : T) == [c]) = false := fun x hx => beq_eq_false_iff_ne.mpr (by simpa using fun z : x = c => hx z.symm)
  simp only [nn 40 h1, nn 41 h2, nn 91 h3, nn 93 h4, nn 60 h5, nn 62 h6, Bool.false_eq_true, if_false, h1, h2, h3, h4, h5, h6, Option.getD_none]
theorem get_turn {μ : Mu} (c : Nat) : mthM .get μ (.dic tKs tVs) [.str [c], .str [c]] = some (.str [turnC c]) := by
  rw [← getK_turn] <;> rfl
/-- what stands at the places o, by the levels -/
def seen (t : T) (lv : List Int) (o : List Nat) : T := o.map fun k => if lv.getD k 0 = 1 then turnC (t.getD k 0) else t.getD k 0
theorem joinT_sing : ∀ l : T, joinT [] (l.map fun c => [c]) = l
  | [] => rfl
  | [c] => rfl
  | c :: d :: l => by
    have := joinT_sing (d :: l)
    show [c] ++ [] ++ joinT [] ((d :: l).map fun c => [c]) = _
    rw [this]
    rfl
theorem sumL_sing : ∀ l : T, sumL (l.map fun c => [c]) = l.length
  | [] => rfl
  | c :: l => by
    show 1 + sumL (l.map fun c => [c]) = _
    rw [sumL_sing l, List.length_cons]
    omega
theorem join_sing {μ : Mu} {l : T} (h : l.length ≤ LINE) : mthM .join μ (.str []) [.lst (l.map fun c => .str [c])] = some (.str l) := by
  have e : (l.map fun c => D.str [c]) = (l.map fun c => ([c] : T)).map .str := by rw [List.map_map]; rfl
  rw [e]
  have e2 : mthM .join μ (.str []) [.lst ((l.map fun c => ([c] : T)).map .str)] = match toStrs ((l.map fun c => ([c] : T)).map .str) with
    | some xs => if sumL xs + xs.length * 0 ≤ LINE then some (.str (joinT [] xs)) else none
    | none => none := rfl
  rw [e2, toStrs_map]
  show (if sumL (l.map fun c => [c]) + (l.map fun c => ([c] : T)).length * 0 ≤ LINE then some (D.str (joinT [] (l.map fun c => [c]))) else none) = _
  rw [sumL_sing, joinT_sing, Nat.mul_zero, Nat.add_zero, if_pos h]
theorem f_seen (n : Nat) (t : T) (lv : List Int) (o : List Nat) (μ : Mu) (hμ : drys μ = true) (hl : t.length ≤ 80) (hlv : lv.length = t.length) (ho : ∀ p ∈ o, p < t.length) (hol : o.length ≤ 80) :
    (K (n + 1)).fn 22 [.str t, .lst (lv.map .int), .lst (intz o)] μ = .ok (.str (seen t lv o)) μ := by
  rw [fn_at (d := dF__law_seen) rfl]
  show fun_ (K n) 5 false b__law_seen [.str t, .lst (lv.map .int), .lst (intz o)] μ = _
  refine fun_ret [some (.str t), some (.lst (lv.map .int)), some (.lst (intz o)), none, none] rfl ?_
  unfold b__law_seen
  have hL : t.length ≤ LINE := Nat.le_trans hl (by decide)
  have hdic : ∀ σ, evd (K n) (.cons (.cst (.str [40])) (.cons (.cst (.str [41])) (.cons (.cst (.str [41])) (.cons (.cst (.str [40])) (.cons (.cst (.str [91])) (.cons (.cst (.str [93])) (.cons (.cst (.str [93])) (.cons (.cst (.str [91])) (.cons (.cst (.str [60])) (.cons (.cst (.str [62])) (.cons (.cst (.str [62])) (.cons (.cst (.str [60])) .nil)))))))))))) σ μ [] [] = .ok (tKs, tVs) μ := fun σ => by
    simp -implicitDefEqProofs only [rns_cons, rns_nil, sL_cons, sL_nil, eL_cons, eL_nil, rn, ev, evT, evs, evo, evq, evi, evC, bnd_ok, calm_ok, opt_some, nxt_nx, nxt_ret, nxt_brk, nxt_ct, ev_ok, fresh, bindT, bindTs, setSl, Option.map_some, Option.map_none, List.getElem?_cons_zero, List.getElem?_cons_succ, List.set_cons_zero, List.set_cons_succ, List.length_cons, List.length_nil, Nat.reduceAdd, Nat.reduceLT, Nat.zero_lt_succ, Nat.reduceSub, if_true, ite_tt, ite_ff, Bool.false_eq_true, if_false, in_str, lt_int, le_int, gt_int, ge_int, eq_int, ne_int, eq_bl, ne_bl, len_lst, len_tup, add_int, sub_int, sub_lst, sub_tup, tru_bl, recvM, evd]
    rfl
  simp -implicitDefEqProofs only [rns_cons, rns_nil, sL_cons, sL_nil, eL_cons, eL_nil, rn, ev, evT, evs, evo, evq, evi, evC, bnd_ok, calm_ok, opt_some, nxt_nx, nxt_ret, nxt_brk, nxt_ct, ev_ok, fresh, bindT, bindTs, setSl, Option.map_some, Option.map_none, List.getElem?_cons_zero, List.getElem?_cons_succ, List.set_cons_zero, List.set_cons_succ, List.length_cons, List.length_nil, Nat.reduceAdd, Nat.reduceLT, Nat.zero_lt_succ, Nat.reduceSub, if_true, ite_tt, ite_ff, Bool.false_eq_true, if_false, in_str, lt_int, le_int, gt_int, ge_int, eq_int, ne_int, eq_bl, ne_bl, len_lst, len_tup, add_int, sub_int, sub_lst, sub_tup, tru_bl, recvM]
  rw [hdic]
  simp -implicitDefEqProofs only [rns_cons, rns_nil, sL_cons, sL_nil, eL_cons, eL_nil, rn, ev, evT, evs, evo, evq, evi, evC, bnd_ok, calm_ok, opt_some, nxt_nx, nxt_ret, nxt_brk, nxt_ct, ev_ok, fresh, bindT, bindTs, setSl, Option.map_some, Option.map_none, List.getElem?_cons_zero, List.getElem?_cons_succ, List.set_cons_zero, List.set_cons_succ, List.length_cons, List.length_nil, Nat.reduceAdd, Nat.reduceLT, Nat.zero_lt_succ, Nat.reduceSub, if_true, ite_tt, ite_ff, Bool.false_eq_true, if_false, in_str, lt_int, le_int, gt_int, ge_int, eq_int, ne_int, eq_bl, ne_bl, len_lst, len_tup, add_int, sub_int, sub_lst, sub_tup, tru_bl, recvM, seq_lst]
  simp only [ev_bnd, ev_calm]
  refine ev_mapR (fun k => .str [if lv.getD k 0 = 1 then turnC (t.getD k 0) else t.getD k 0]) rfl (fun k hk => ?_) ?_
  · have hkt := ho k hk
    rw [turnM_1 (by simp)]
    have a1 : subM μ (.str t) (.int (k : Int)) = some (.str [t.getD k 0]) := sub_str hL (atD_some (by rw [List.getElem?_eq_getElem hkt, getD_at hkt]))
    simp -implicitDefEqProofs only [rns_cons, rns_nil, sL_cons, sL_nil, eL_cons, eL_nil, rn, ev, evT, evs, evo, evq, evi, evC, bnd_ok, calm_ok, opt_some, nxt_nx, nxt_ret, nxt_brk, nxt_ct, ev_ok, fresh, bindT, bindTs, setSl, Option.map_some, Option.map_none, List.getElem?_cons_zero, List.getElem?_cons_succ, List.set_cons_zero, List.set_cons_succ, List.length_cons, List.length_nil, Nat.reduceAdd, Nat.reduceLT, Nat.zero_lt_succ, Nat.reduceSub, if_true, ite_tt, ite_ff, Bool.false_eq_true, if_false, in_str, lt_int, le_int, gt_int, ge_int, eq_int, ne_int, eq_bl, ne_bl, len_lst, len_tup, add_int, sub_int, sub_lst, sub_tup, tru_bl, recvM, lv_at (by rw [hlv]; exact hkt), a1]
    by_cases q : lv.getD k 0 = 1
    · have q1 : (lv.getD k 0 == 1) = true := beq_iff_eq.mpr q
      simp -implicitDefEqProofs only [rns_cons, rns_nil, sL_cons, sL_nil, eL_cons, eL_nil, rn, ev, evT, evs, evo, evq, evi, evC, bnd_ok, calm_ok, opt_some, nxt_nx, nxt_ret, nxt_brk, nxt_ct, ev_ok, fresh, bindT, bindTs, setSl, Option.map_some, Option.map_none, List.getElem?_cons_zero, List.getElem?_cons_succ, List.set_cons_zero, List.set_cons_succ, List.length_cons, List.length_nil, Nat.reduceAdd, Nat.reduceLT, Nat.zero_lt_succ, Nat.reduceSub, if_true, ite_tt, ite_ff, Bool.false_eq_true, if_false, in_str, lt_int, le_int, gt_int, ge_int, eq_int, ne_int, eq_bl, ne_bl, len_lst, len_tup, add_int, sub_int, sub_lst, sub_tup, tru_bl, recvM, q1, dicOf, Option.isSome, a1, get_turn]
      rw [if_pos q]
    · have q1 : (lv.getD k 0 == 1) = false := beq_eq_false_iff_ne.mpr q
      simp -implicitDefEqProofs only [rns_cons, rns_nil, sL_cons, sL_nil, eL_cons, eL_nil, rn, ev, evT, evs, evo, evq, evi, evC, bnd_ok, calm_ok, opt_some, nxt_nx, nxt_ret, nxt_brk, nxt_ct, ev_ok, fresh, bindT, bindTs, setSl, Option.map_some, Option.map_none, List.getElem?_cons_zero, List.getElem?_cons_succ, List.set_cons_zero, List.set_cons_succ, List.length_cons, List.length_nil, Nat.reduceAdd, Nat.reduceLT, Nat.zero_lt_succ, Nat.reduceSub, if_true, ite_tt, ite_ff, Bool.false_eq_true, if_false, in_str, lt_int, le_int, gt_int, ge_int, eq_int, ne_int, eq_bl, ne_bl, len_lst, len_tup, add_int, sub_int, sub_lst, sub_tup, tru_bl, recvM, q1, a1]
      rw [if_neg q]
  have e : (o.map fun k => D.str [if lv.getD k 0 = 1 then turnC (t.getD k 0) else t.getD k 0]) = (seen t lv o).map fun c => .str [c] := by unfold seen; rw [List.map_map]; rfl
  rw [e]
  simp -implicitDefEqProofs only [rns_cons, rns_nil, sL_cons, sL_nil, eL_cons, eL_nil, rn, ev, evT, evs, evo, evq, evi, evC, bnd_ok, calm_ok, opt_some, nxt_nx, nxt_ret, nxt_brk, nxt_ct, ev_ok, fresh, bindT, bindTs, setSl, Option.map_some, Option.map_none, List.getElem?_cons_zero, List.getElem?_cons_succ, List.set_cons_zero, List.set_cons_succ, List.length_cons, List.length_nil, Nat.reduceAdd, Nat.reduceLT, Nat.zero_lt_succ, Nat.reduceSub, if_true, ite_tt, ite_ff, Bool.false_eq_true, if_false, in_str, lt_int, le_int, gt_int, ge_int, eq_int, ne_int, eq_bl, ne_bl, len_lst, len_tup, add_int, sub_int, sub_lst, sub_tup, tru_bl, recvM, join_sing (l := seen t lv o) (μ := μ) (by unfold seen; rw [List.length_map]; exact Nat.le_trans hol (by decide))]
  exact ⟨_, .inl rfl, done_dry0 hμ rfl⟩
theorem g_3 (n : Nat) : (K n).glob 3 = .dic tKs tVs := by cases n <;> rfl
theorem f_line (n : Nat) (t : T) (b : Int) (μ : Mu) (hμ : drys μ = true) (ht : Tx t) (hb : b = 0 ∨ b = 1) : (K (n + 4)).fn 7 [.str t, .int b] μ = .ok (.str (seen t (levels b t) (sorder (levels b t)))) μ := by
  rw [fn_at (d := dF_line_seen) rfl]
  show fun_ (K (n + 3)) 5 false b_line_seen [.str t, .int b] μ = _
  refine fun_ret [some (.str t), some (.int b), none, none, none] rfl ?_
  unfold b_line_seen
  have hlen := levels_len b t
  have hle := levels_le hb t
  have hl80 : (levels b t).length ≤ 80 := by rw [hlen]; exact ht.len
  have h4 : ∀ x ∈ levels b t, 0 ≤ x ∧ x ≤ (4 : Nat) := fun x hx => ⟨(hle x hx).1, by have := (hle x hx).2; omega⟩
  simp -implicitDefEqProofs only [rns_cons, rns_nil, sL_cons, sL_nil, eL_cons, eL_nil, rn, ev, evT, evs, evo, evq, evi, evC, bnd_ok, calm_ok, opt_some, nxt_nx, nxt_ret, nxt_brk, nxt_ct, ev_ok, fresh, bindT, bindTs, setSl, Option.map_some, Option.map_none, List.getElem?_cons_zero, List.getElem?_cons_succ, List.set_cons_zero, List.set_cons_succ, List.length_cons, List.length_nil, Nat.reduceAdd, Nat.reduceLT, Nat.zero_lt_succ, Nat.reduceSub, if_true, ite_tt, ite_ff, Bool.false_eq_true, if_false, in_str, lt_int, le_int, gt_int, ge_int, eq_int, ne_int, eq_bl, ne_bl, len_lst, len_tup, add_int, sub_int, sub_lst, sub_tup, tru_bl, recvM, p_levels n t b μ hμ ht hb, f_ord_tup (n + 2) (levels b t) true μ hμ hl80 h4, seq_tup]
  generalize hlv : levels b t = lv at *
  have hperm : (sorder lv).Perm (List.range lv.length) := sord_perm lv _
  generalize ho : sorder lv = o at *
  rw [ev_bnd]
  have hmem : ∀ p ∈ o, p < t.length := fun p hp => by rw [← hlen]; exact List.mem_range.mp (hperm.mem_iff.mp hp)
  have hol : o.length = t.length := by rw [hperm.length_eq, List.length_range, hlen]
  refine for_ind (fun xs σ μ2 => ∃ r q a, xs = intz r ∧ o = q ++ r ∧ σ = [some (.str t), some (.int b), some (.tup true (lv.map .int)), some (.str (seen t lv q)), a] ∧ μ2 = μ) (fun _ _ _ _ => rfl) ?_ ?_ _ _ _ ⟨o, [], _, rfl, rfl, rfl, rfl⟩
  · rintro x xs σ μ2 ⟨r, q, a, hr, he, rfl, rfl⟩
    cases r with
    | nil => cases hr
    | cons p r =>
      have hr : x :: xs = D.int (p : Int) :: intz r := hr
      injection hr with e1 e2
      subst e1 e2
      have hpt := hmem p (by rw [he]; simp)
      have hpl : p < lv.length := by rw [hlen]; exact hpt
      rw [turn_1 (by simp)]
      have a1 : subM μ2 (.str t) (.int (p : Int)) = some (.str [t.getD p 0]) := sub_str ht.line (atD_some (by rw [List.getElem?_eq_getElem hpt, getD_at hpt]))
      have hx := hle (lv.getD p 0) (by
        have e : lv.getD p 0 = lv[p] := by simp [List.getD, List.getElem?_eq_getElem hpl]
        rw [e]
        exact List.getElem_mem hpl)
      have hq : q.length < 80 := by
        have := congrArg List.length he
        simp at this
        have := ht.len
        omega
      have hs : (seen t lv (q ++ [p])) = seen t lv q ++ [if lv.getD p 0 = 1 then turnC (t.getD p 0) else t.getD p 0] := by unfold seen; rw [List.map_append]; rfl
      have hl2 : ∀ c : Nat, (seen t lv q).length + [c].length ≤ LINE := fun c => by unfold seen LINE; rw [List.length_map]; simp; omega
      have aug : ∀ c : Nat, augM .add μ2 (.str (seen t lv q)) (.str [c]) = some (.str (seen t lv q ++ [c]), μ2) := fun c => by
        show (if (seen t lv q).length + [c].length ≤ LINE then some (D.str (seen t lv q ++ [c]), μ2) else none) = _
        rw [if_pos (hl2 c)]
      simp -implicitDefEqProofs only [rns_cons, rns_nil, sL_cons, sL_nil, eL_cons, eL_nil, rn, ev, evT, evs, evo, evq, evi, evC, bnd_ok, calm_ok, opt_some, nxt_nx, nxt_ret, nxt_brk, nxt_ct, ev_ok, fresh, bindT, bindTs, setSl, Option.map_some, Option.map_none, List.getElem?_cons_zero, List.getElem?_cons_succ, List.set_cons_zero, List.set_cons_succ, List.length_cons, List.length_nil, Nat.reduceAdd, Nat.reduceLT, Nat.zero_lt_succ, Nat.reduceSub, if_true, ite_tt, ite_ff, Bool.false_eq_true, if_false, in_str, lt_int, le_int, gt_int, ge_int, eq_int, ne_int, eq_bl, ne_bl, len_lst, len_tup, add_int, sub_int, sub_lst, sub_tup, tru_bl, recvM, lv_at hpl, mod_int (show (0 : Int) < 2 by decide)]
      by_cases z : lv.getD p 0 = 1
      · have z1 : (lv.getD p 0 % 2 == 1) = true := by rw [z]; rfl
        simp -implicitDefEqProofs only [rns_cons, rns_nil, sL_cons, sL_nil, eL_cons, eL_nil, rn, ev, evT, evs, evo, evq, evi, evC, bnd_ok, calm_ok, opt_some, nxt_nx, nxt_ret, nxt_brk, nxt_ct, ev_ok, fresh, bindT, bindTs, setSl, Option.map_some, Option.map_none, List.getElem?_cons_zero, List.getElem?_cons_succ, List.set_cons_zero, List.set_cons_succ, List.length_cons, List.length_nil, Nat.reduceAdd, Nat.reduceLT, Nat.zero_lt_succ, Nat.reduceSub, if_true, ite_tt, ite_ff, Bool.false_eq_true, if_false, in_str, lt_int, le_int, gt_int, ge_int, eq_int, ne_int, eq_bl, ne_bl, len_lst, len_tup, add_int, sub_int, sub_lst, sub_tup, tru_bl, recvM, z1, g_3, dicOf, Option.isSome, a1, get_turn, aug]
        rw [show seen t lv q ++ [turnC (t.getD p 0)] = seen t lv (q ++ [p]) by rw [hs, if_pos z]]
        exact .inl ⟨_, .inl rfl, r, q ++ [p], _, (by first | exact True.intro | rfl | contradiction | assumption), by rw [he]; simp, (by first | exact True.intro | rfl | contradiction | assumption), (by first | exact True.intro | rfl | contradiction | assumption)⟩
      · have z1 : (lv.getD p 0 % 2 == 1) = false := by
          have : lv.getD p 0 = 0 ∨ lv.getD p 0 = 2 := by omega
          rcases this with y | y <;> rw [y] <;> rfl
        simp -implicitDefEqProofs only [rns_cons, rns_nil, sL_cons, sL_nil, eL_cons, eL_nil, rn, ev, evT, evs, evo, evq, evi, evC, bnd_ok, calm_ok, opt_some, nxt_nx, nxt_ret, nxt_brk, nxt_ct, ev_ok, fresh, bindT, bindTs, setSl, Option.map_some, Option.map_none, List.getElem?_cons_zero, List.getElem?_cons_succ, List.set_cons_zero, List.set_cons_succ, List.length_cons, List.length_nil, Nat.reduceAdd, Nat.reduceLT, Nat.zero_lt_succ, Nat.reduceSub, if_true, ite_tt, ite_ff, Bool.false_eq_true, if_false, in_str, lt_int, le_int, gt_int, ge_int, eq_int, ne_int, eq_bl, ne_bl, len_lst, len_tup, add_int, sub_int, sub_lst, sub_tup, tru_bl, recvM, z1, a1, aug]
        rw [show seen t lv q ++ [t.getD p 0] = seen t lv (q ++ [p]) by rw [hs, if_neg z]]
        exact .inl ⟨_, .inl rfl, r, q ++ [p], _, (by first | exact True.intro | rfl | contradiction | assumption), by rw [he]; simp, (by first | exact True.intro | rfl | contradiction | assumption), (by first | exact True.intro | rfl | contradiction | assumption)⟩
  · rintro σ μ2 ⟨r, q, a, hr, he, rfl, rfl⟩
    cases r with
    | cons p r => cases hr
    | nil =>
      rw [List.append_nil] at he
      subst he
      simp -implicitDefEqProofs only [rns_cons, rns_nil, sL_cons, sL_nil, eL_cons, eL_nil, rn, ev, evT, evs, evo, evq, evi, evC, bnd_ok, calm_ok, opt_some, nxt_nx, nxt_ret, nxt_brk, nxt_ct, ev_ok, fresh, bindT, bindTs, setSl, Option.map_some, Option.map_none, List.getElem?_cons_zero, List.getElem?_cons_succ, List.set_cons_zero, List.set_cons_succ, List.length_cons, List.length_nil, Nat.reduceAdd, Nat.reduceLT, Nat.zero_lt_succ, Nat.reduceSub, if_true, ite_tt, ite_ff, Bool.false_eq_true, if_false, in_str, lt_int, le_int, gt_int, ge_int, eq_int, ne_int, eq_bl, ne_bl, len_lst, len_tup, add_int, sub_int, sub_lst, sub_tup, tru_bl, recvM]
      exact ⟨_, .inl rfl, done_dry0 hμ rfl⟩
end Mi
set_option Elab.async false
set_option linter.all false
set_option maxRecDepth 100000
set_option maxHeartbeats 4000000
/-! P23: begins, sides mixed, places, parts, dice. -/
namespace Mi
theorem beginP_01 : ∀ t : T, beginP t = 0 ∨ beginP t = 1
  | [] => .inl rfl
  | c :: r => by
    have e : beginP (c :: r) = if kindC c = [76] then 0 else if kindC c = [82] then 1 else beginP r := rfl
    rw [e]
    split
    · exact .inl rfl
    split
    · exact .inr rfl
    · exact beginP_01 r
theorem al_let : ∀ c ∈ [97, 98, 65, 66, 49, 50, 46, 32, 40, 41, 44, 45], lkk c false = if kindC c = [83] then [66] else kindC c := by decide
theorem lk_sing (c : Nat) : lk [c] 0 = lkk c false := rfl
theorem al_lt : ∀ c ∈ [97, 98, 65, 66, 49, 50, 46, 32, 40, 41, 44, 45], c < 1114112 := by decide
theorem plain_chars : ∀ {L : List Nat}, (∀ c ∈ L, c < 1114112) → plains 19 (L.map fun c => D.str [c]) = true
  | [], _ => rfl
  | c :: L, h => by
    rw [List.map_cons]
    unfold plains
    rw [Bool.and_eq_true]
    refine ⟨?_, plain_chars fun d hd => h d (List.mem_cons_of_mem _ hd)⟩
    show ([c].all (· < 1114112)) = true
    simp [h c List.mem_cons_self]
theorem f_lbegin (n : Nat) (t : T) (μ : Mu) (hμ : drys μ = true) (ht : Tx t) : (K (n + 2)).fn 23 [.str t] μ = .ok (.int (beginP t)) μ := by
  rw [fn_at (d := dF__law_begin) rfl]
  show fun_ (K (n + 1)) 3 false b__law_begin [.str t] μ = _
  refine fun_ret [some (.str t), none, none] rfl ?_
  unfold b__law_begin
  have kk : ∀ c : Nat, (K (n + 1)).fn 19 [.str [c], .int 0] μ = .ok (.str (lkk c false)) μ := fun c => by
    have := f_lkind n [c] 0 μ hμ (by simp) (show 1 ≤ LINE by decide)
    rw [lk_sing] at this
    exact this
  have k4 : ∀ c, lkk c false = [76] ∨ lkk c false = [82] ∨ lkk c false = [78] ∨ lkk c false = [66] := fun c => lkk_non c false
  simp -implicitDefEqProofs only [rns_cons, rns_nil, sL_cons, sL_nil, eL_cons, eL_nil, rn, ev, evT, evs, evo, evq, evi, evC, bnd_ok, calm_ok, opt_some, nxt_nx, nxt_ret, nxt_brk, nxt_ct, ev_ok, fresh, bindT, bindTs, setSl, Option.map_some, Option.map_none, List.getElem?_cons_zero, List.getElem?_cons_succ, List.set_cons_zero, List.set_cons_succ, List.length_cons, List.length_nil, Nat.reduceAdd, Nat.reduceLT, Nat.zero_lt_succ, Nat.reduceSub, if_true, ite_tt, ite_ff, Bool.false_eq_true, if_false, in_str, lt_int, le_int, gt_int, ge_int, eq_int, ne_int, eq_bl, ne_bl, len_lst, len_tup, add_int, sub_int, sub_lst, sub_tup, tru_bl, recvM, seq_str ht.line]
  simp only [ev_bnd, ev_calm]
  refine ev_mapF (fun c => if (decide (lkk c false = [76]) || decide (lkk c false = [82])) = true then some c else none) (fun c => .str [c]) rfl (fun c hc => ?_) ?_
  · rw [turnM_1 (by simp)]
    simp -implicitDefEqProofs only [rns_cons, rns_nil, sL_cons, sL_nil, eL_cons, eL_nil, rn, ev, evT, evs, evo, evq, evi, evC, bnd_ok, calm_ok, opt_some, nxt_nx, nxt_ret, nxt_brk, nxt_ct, ev_ok, fresh, bindT, bindTs, setSl, Option.map_some, Option.map_none, List.getElem?_cons_zero, List.getElem?_cons_succ, List.set_cons_zero, List.set_cons_succ, List.length_cons, List.length_nil, Nat.reduceAdd, Nat.reduceLT, Nat.zero_lt_succ, Nat.reduceSub, if_true, ite_tt, ite_ff, Bool.false_eq_true, if_false, in_str, lt_int, le_int, gt_int, ge_int, eq_int, ne_int, eq_bl, ne_bl, len_lst, len_tup, add_int, sub_int, sub_lst, sub_tup, tru_bl, recvM, kk, in_LR (k4 c)]
    cases q : (decide (lkk c false = [76]) || decide (lkk c false = [82])) <;> rfl
  have key : ∀ r : T, (∀ c ∈ r, c ∈ [97, 98, 65, 66, 49, 50, 46, 32, 40, 41, 44, 45]) → (match r.filterMap (fun c => if (decide (lkk c false = [76]) || decide (lkk c false = [82])) = true then some c else none) with
      | [] => beginP r = 0
      | c :: _ => beginP r = if lkk c false = [82] then 1 else 0) := by
    intro r
    induction r with
    | nil => intro _; rfl
    | cons c r ih =>
      intro hr
      have hc := al_let c (hr c List.mem_cons_self)
      have ih := ih fun d hd => hr d (List.mem_cons_of_mem _ hd)
      have e : beginP (c :: r) = if kindC c = [76] then 0 else if kindC c = [82] then 1 else beginP r := rfl
      by_cases h1 : kindC c = [76]
      · have h2 : lkk c false = [76] := by rw [hc, h1]; rfl
        rw [List.filterMap_cons_some (b := c) (by rw [h2]; rfl)]
        show beginP (c :: r) = if lkk c false = [82] then 1 else 0
        rw [e, if_pos h1, h2]; rfl
      · by_cases h3 : kindC c = [82]
        · have h2 : lkk c false = [82] := by rw [hc, h3]; rfl
          rw [List.filterMap_cons_some (b := c) (by rw [h2]; rfl)]
          show beginP (c :: r) = if lkk c false = [82] then 1 else 0
          rw [e, if_neg h1, if_pos h3, if_pos h2]
        · have n1 : lkk c false ≠ [76] := by
            rw [hc]; split
            · simp
            · exact h1
          have n2 : lkk c false ≠ [82] := by
            rw [hc]; split
            · simp
            · exact h3
          rw [List.filterMap_cons_none (by simp [n1, n2]), e, if_neg h1, if_neg h3]
          exact ih
  have key := key t ht.al
  have hmem : ∀ c ∈ t.filterMap (fun c => if (decide (lkk c false = [76]) || decide (lkk c false = [82])) = true then some c else none), c < 1114112 := fun c hc => by
    obtain ⟨d, hd, e⟩ := List.mem_filterMap.mp hc
    split at e
    · cases e
      exact al_lt c (ht.al c hd)
    · cases e
  generalize t.filterMap (fun c => if (decide (lkk c false = [76]) || decide (lkk c false = [82])) = true then some c else none) = L at key hmem
  simp -implicitDefEqProofs only [rns_cons, rns_nil, sL_cons, sL_nil, eL_cons, eL_nil, rn, ev, evT, evs, evo, evq, evi, evC, bnd_ok, calm_ok, opt_some, nxt_nx, nxt_ret, nxt_brk, nxt_ct, ev_ok, fresh, bindT, bindTs, setSl, Option.map_some, Option.map_none, List.getElem?_cons_zero, List.getElem?_cons_succ, List.set_cons_zero, List.set_cons_succ, List.length_cons, List.length_nil, Nat.reduceAdd, Nat.reduceLT, Nat.zero_lt_succ, Nat.reduceSub, if_true, ite_tt, ite_ff, Bool.false_eq_true, if_false, in_str, lt_int, le_int, gt_int, ge_int, eq_int, ne_int, eq_bl, ne_bl, len_lst, len_tup, add_int, sub_int, sub_lst, sub_tup, tru_bl, recvM, ne_nil (plain_chars hmem)]
  cases L with
  | nil =>
    have key : beginP t = 0 := key
    simp -implicitDefEqProofs only [rns_cons, rns_nil, sL_cons, sL_nil, eL_cons, eL_nil, rn, ev, evT, evs, evo, evq, evi, evC, bnd_ok, calm_ok, opt_some, nxt_nx, nxt_ret, nxt_brk, nxt_ct, ev_ok, fresh, bindT, bindTs, setSl, Option.map_some, Option.map_none, List.getElem?_cons_zero, List.getElem?_cons_succ, List.set_cons_zero, List.set_cons_succ, List.length_cons, List.length_nil, Nat.reduceAdd, Nat.reduceLT, Nat.zero_lt_succ, Nat.reduceSub, if_true, ite_tt, ite_ff, Bool.false_eq_true, if_false, in_str, lt_int, le_int, gt_int, ge_int, eq_int, ne_int, eq_bl, ne_bl, len_lst, len_tup, add_int, sub_int, sub_lst, sub_tup, tru_bl, recvM, List.map_nil, List.isEmpty_nil, Bool.not_true, bltM]
    rw [key]
    exact ⟨_, .inl rfl, done_dry0 hμ rfl⟩
  | cons c L =>
    have key : beginP t = if lkk c false = [82] then 1 else 0 := key
    have i0 : atD ((c :: L).map fun c => D.str [c]) 0 = some (.str [c]) := atD_0 rfl
    have okk : cOk (lkk c false) := (lkk_is c false).ok
    rw [List.map_cons] at i0 ⊢
    simp -implicitDefEqProofs only [rns_cons, rns_nil, sL_cons, sL_nil, eL_cons, eL_nil, rn, ev, evT, evs, evo, evq, evi, evC, bnd_ok, calm_ok, opt_some, nxt_nx, nxt_ret, nxt_brk, nxt_ct, ev_ok, fresh, bindT, bindTs, setSl, Option.map_some, Option.map_none, List.getElem?_cons_zero, List.getElem?_cons_succ, List.set_cons_zero, List.set_cons_succ, List.length_cons, List.length_nil, Nat.reduceAdd, Nat.reduceLT, Nat.zero_lt_succ, Nat.reduceSub, if_true, ite_tt, ite_ff, Bool.false_eq_true, if_false, in_str, lt_int, le_int, gt_int, ge_int, eq_int, ne_int, eq_bl, ne_bl, len_lst, len_tup, add_int, sub_int, sub_lst, sub_tup, tru_bl, recvM, List.isEmpty_cons, Bool.not_false, i0, kk, eq_str okk (show cOk [82] from rfl), bltM]
    rw [key]
    by_cases q : lkk c false = [82]
    · rw [if_pos q, beq_iff_eq.mpr q]
      exact ⟨_, .inl rfl, done_dry0 hμ rfl⟩
    · rw [if_neg q, beq_eq_false_iff_ne.mpr q]
      exact ⟨_, .inl rfl, done_dry0 hμ rfl⟩
theorem ys_str {l : List Nat} : ∀ {ys : List D}, (∀ y ∈ ys, ∃ c ∈ l, y = .str [c]) → ∃ cs : T, ys = cs.map (fun c => .str [c]) ∧ ∀ c ∈ cs, c ∈ l
  | [], _ => ⟨[], rfl, fun c h => absurd h List.not_mem_nil⟩
  | y :: ys, h => by
    obtain ⟨c, hc, rfl⟩ := h y List.mem_cons_self
    obtain ⟨cs, rfl, hcs⟩ := ys_str fun z hz => h z (List.mem_cons_of_mem _ hz)
    exact ⟨c :: cs, rfl, fun d hd => by
      rcases List.mem_cons.mp hd with e | e
      · rw [e]; exact hc
      · exact hcs d e⟩
theorem ev_mapS {ws : Wt} {f : D → Mu → R (Option D)} (I : Mu → Prop) (Q : D → Prop) (hw : ∀ μ, I μ → wOk ws μ = true) {l : List D} (hf : ∀ x ∈ l, ∀ μ, I μ → Ev (f x μ) fun o μ' => ∃ y, o = some y ∧ Q y ∧ I μ') : ∀ {μ : Mu}, I μ → Ev (mapR ws f l μ) fun ys μ' => ys.length = l.length ∧ (∀ y ∈ ys, Q y) ∧ I μ' := by
  induction l with
  | nil =>
    intro μ h
    unfold mapR
    rw [if_pos (hw μ h)]
    exact ⟨rfl, fun y hy => absurd hy List.not_mem_nil, h⟩
  | cons x l ih =>
    intro μ h
    unfold mapR
    rw [if_pos (hw μ h), ev_bnd]
    refine (hf x List.mem_cons_self μ h).mono fun o μ' ⟨y, ho, hq, hi⟩ => ?_
    subst ho
    rw [ev_bnd]
    refine (ih (fun z hz => hf z (List.mem_cons_of_mem _ hz)) hi).mono fun ys μ2 ⟨h1, h2, h3⟩ => ?_
    refine ⟨by simp [h1], fun z hz => ?_, h3⟩
    rcases List.mem_cons.mp hz with e | e
    · rw [e]; exact hq
    · exact h2 z e
/-! ### dice -/
def DM (a b m : Int) : Mu := [.lst [.int a, .int b, .int m]]
def IsDM (μ : Mu) : Prop := ∃ a b m, μ = DM a b m
theorem IsDM.dry {μ : Mu} (h : IsDM μ) : drys μ = true := by obtain ⟨a, b, m, rfl⟩ := h; rfl
theorem done_same {μ' : Mu} {n : Nat} {d : D} (hn : μ'.length = n) (hμ : drys μ' = true) (hd : dry d = true) : done n d μ' = .ok d μ' := by
  subst hn
  exact done_dry0 hμ hd
theorem fun_ret2 {Φ : Env} {N : Nat} {b : Ss} {as : List D} {μ : Mu} {P : D → Mu → Prop} (σ0 : Sl) (hσ : as.map some ++ List.replicate (N - as.length) none = σ0) (h : Ev (rns Φ b σ0 μ) fun fl μ' => ∃ d, (fl = .ret d ∨ (∃ σ, fl = .nx σ) ∧ d = .non) ∧ ∃ out μ2, done μ.length d μ' = .ok out μ2 ∧ P out μ2) : Ev (fun_ Φ N false b as μ) P := by
  obtain ⟨fl, μ', e, d, h1, out, μ2, h2, h3⟩ := h.ex
  have := fun_ret (out := out) (μ := μ) (Φ := Φ) (N := N) (b := b) (as := as) σ0 hσ
  unfold fun_
  rw [hσ, e]
  rcases h1 with rfl | ⟨⟨σ, rfl⟩, rfl⟩
  · simp only [Bool.false_eq_true, if_false]
    rw [h2]
    exact h3
  · simp only [Bool.false_eq_true, if_false]
    rw [h2]
    exact h3
theorem f_roll (n : Nat) (μ : Mu) (hμ : IsDM μ) (many : Int) (h1 : 1 ≤ many) (h2 : many ≤ 1000) : Ev ((K (n + 1)).fn 15 [.ref 0, .int many] μ) fun d μ' => ∃ r : Nat, d = .int (r : Int) ∧ (r : Int) < many ∧ IsDM μ' := by
  obtain ⟨a, b, m, rfl⟩ := hμ
  rw [fn_at (d := dF__law_roll) rfl]
  show Ev (fun_ (K n) 3 false b__law_roll [.ref 0, .int many] (DM a b m)) _
  refine fun_ret2 [some (.ref 0), some (.int many), none] rfl ?_
  unfold b__law_roll
  have cell : ∀ a b m : Int, (DM a b m)[0]? = some (.lst [.int a, .int b, .int m]) := fun _ _ _ => rfl
  have s0 : ∀ a b m : Int, subM (DM a b m) (.ref 0) (.int 0) = some (.int a) := fun _ _ _ => rfl
  have s1 : ∀ a b m : Int, subM (DM a b m) (.ref 0) (.int 1) = some (.int b) := fun _ _ _ => rfl
  have s2 : ∀ a b m : Int, subM (DM a b m) (.ref 0) (.int 2) = some (.int m) := fun _ _ _ => rfl
  have w0 : ∀ a b m x : Int, setM (DM a b m) (.ref 0) (.int 0) (.int x) = some (DM x b m) := fun _ _ _ _ => rfl
  have w1 : ∀ a b m x : Int, setM (DM a b m) (.ref 0) (.int 1) (.int x) = some (DM a x m) := fun _ _ _ _ => rfl
  have w2 : ∀ a b m x : Int, setM (DM a b m) (.ref 0) (.int 2) (.int x) = some (DM a b x) := fun _ _ _ _ => rfl
  have ii : ∀ (μ : Mu) (x : Int), bltM .int μ [.int x] = some (.int x) := fun _ _ => rfl
  have md : ∀ (μ : Mu) (x : Int), binM .mod μ (.int x) (.int many) = some (.int (x % many)) := fun _ x => mod_int (by omega)
  have fd : ∀ (μ : Mu) (x : Int), binM .fdiv μ (.int x) (.int many) = some (.int (x / many)) := fun _ x => fdiv_int (by omega) (by omega)
  have nat : ∀ x : Int, ∃ r : Nat, x % many = (r : Int) ∧ (r : Int) < many := fun x => ⟨(x % many).toNat, by have := Int.emod_nonneg x (show many ≠ 0 by omega); omega, by
    have h3 := Int.emod_lt_of_pos x (show 0 < many by omega)
    have := Int.emod_nonneg x (show many ≠ 0 by omega)
    omega⟩
  have fin : ∀ (x a2 b2 m2 : Int), ∃ d, (Fl.ret (.int (x % many)) = .ret d ∨ (∃ σ, Fl.ret (.int (x % many)) = .nx σ) ∧ d = .non) ∧ ∃ out μ2, done (DM a b m).length d (DM a2 b2 m2) = .ok out μ2 ∧ ∃ r : Nat, out = .int (r : Int) ∧ (r : Int) < many ∧ IsDM μ2 := fun x a2 b2 m2 => by
    obtain ⟨r, e, hr⟩ := nat x
    exact ⟨_, .inl rfl, _, _, done_same (n := (DM a b m).length) rfl rfl rfl, r, by rw [e], hr, a2, b2, m2, rfl⟩
  have cond : ∀ μ : Mu, (if (m == 2) = true then R.ok true μ else if (m == 1) = true then R.ok (decide (0 < a)) μ else R.ok false μ) = .ok ((m == 2) || ((m == 1) && decide (0 < a))) μ := fun μ => by
    cases (m == 2) <;> cases (m == 1) <;> rfl
  have big : decide ((100000000 : Int) < many) = false := decide_eq_false (by omega)
  have m1 : ∀ (μ : Mu) (x : Int), binM .mul μ (.int x) (.int 48271) = some (.int (x * 48271)) := fun μ x => mul_int (by rw [show small 48271 = true by decide, Bool.or_true])
  have m2 : ∀ (μ : Mu) (x : Int), binM .mul μ (.int x) (.int 69621) = some (.int (x * 69621)) := fun μ x => mul_int (by rw [show small 69621 = true by decide, Bool.or_true])
  have md2 : ∀ (μ : Mu) (x : Int), binM .mod μ (.int x) (.int 2147483647) = some (.int (x % 2147483647)) := fun _ x => mod_int (by decide)
  have fd7 : ∀ (μ : Mu) (x : Int), binM .fdiv μ (.int x) (.int 7) = some (.int (x / 7)) := fun _ x => fdiv_int (by decide) (by decide)
  simp -implicitDefEqProofs only [rns_cons, rns_nil, sL_cons, sL_nil, eL_cons, eL_nil, rn, ev, evT, evs, evo, evq, evi, evC, bnd_ok, calm_ok, opt_some, nxt_nx, nxt_ret, nxt_brk, nxt_ct, ev_ok, fresh, bindT, bindTs, setSl, Option.map_some, Option.map_none, List.getElem?_cons_zero, List.getElem?_cons_succ, List.set_cons_zero, List.set_cons_succ, List.length_cons, List.length_nil, Nat.reduceAdd, Nat.reduceLT, Nat.zero_lt_succ, Nat.reduceSub, if_true, ite_tt, ite_ff, Bool.false_eq_true, if_false, in_str, lt_int, le_int, gt_int, ge_int, eq_int, ne_int, eq_bl, ne_bl, len_lst, len_tup, add_int, sub_int, sub_lst, sub_tup, tru_bl, recvM, s0, s2, cond]
  cases q : ((m == 2) || ((m == 1) && decide (0 < a)))
  · simp -implicitDefEqProofs only [rns_cons, rns_nil, sL_cons, sL_nil, eL_cons, eL_nil, rn, ev, evT, evs, evo, evq, evi, evC, bnd_ok, calm_ok, opt_some, nxt_nx, nxt_ret, nxt_brk, nxt_ct, ev_ok, fresh, bindT, bindTs, setSl, Option.map_some, Option.map_none, List.getElem?_cons_zero, List.getElem?_cons_succ, List.set_cons_zero, List.set_cons_succ, List.length_cons, List.length_nil, Nat.reduceAdd, Nat.reduceLT, Nat.zero_lt_succ, Nat.reduceSub, if_true, ite_tt, ite_ff, Bool.false_eq_true, if_false, in_str, lt_int, le_int, gt_int, ge_int, eq_int, ne_int, eq_bl, ne_bl, len_lst, len_tup, add_int, sub_int, sub_lst, sub_tup, tru_bl, recvM, s0, s1, s2, w0, w1, w2, ii, md, fd, big, m1, m2, md2, fd7]
    exact fin _ _ _ _
  · simp -implicitDefEqProofs only [rns_cons, rns_nil, sL_cons, sL_nil, eL_cons, eL_nil, rn, ev, evT, evs, evo, evq, evi, evC, bnd_ok, calm_ok, opt_some, nxt_nx, nxt_ret, nxt_brk, nxt_ct, ev_ok, fresh, bindT, bindTs, setSl, Option.map_some, Option.map_none, List.getElem?_cons_zero, List.getElem?_cons_succ, List.set_cons_zero, List.set_cons_succ, List.length_cons, List.length_nil, Nat.reduceAdd, Nat.reduceLT, Nat.zero_lt_succ, Nat.reduceSub, if_true, ite_tt, ite_ff, Bool.false_eq_true, if_false, in_str, lt_int, le_int, gt_int, ge_int, eq_int, ne_int, eq_bl, ne_bl, len_lst, len_tup, add_int, sub_int, sub_lst, sub_tup, tru_bl, recvM, s0, s1, s2, w0, w1, w2, ii, md, fd]
    exact fin _ _ _ _
theorem fun_keep {Φ : Env} {N : Nat} {b : Ss} {as : List D} {μ : Mu} {P : D → Mu → Prop} (σ0 : Sl) (hσ : as.map some ++ List.replicate (N - as.length) none = σ0) (h : Ev (rns Φ b σ0 μ) fun fl μ' => ∃ d, fl = .ret d ∧ P d μ') : Ev (fun_ Φ N true b as μ) P := by
  obtain ⟨fl, μ', e, d, rfl, h2⟩ := h.ex
  unfold fun_
  rw [hσ, e]
  exact h2
theorem f_dice (n : Nat) (c : Int) : Ev ((K (n + 1)).fn 14 [.int c] []) fun d μ' => d = .ref 0 ∧ IsDM μ' := by
  rw [fn_at (d := dF__law_dice) rfl]
  show Ev (fun_ (K n) 1 true b__law_dice [.int c] []) _
  refine fun_keep [some (.int c)] rfl ?_
  unfold b__law_dice
  have ab : ∀ (μ : Mu) (x : Int), bltM .abs μ [.int x] = some (.int (if x < 0 then -x else x)) := fun _ _ => rfl
  have ii : ∀ (μ : Mu) (x : Int), bltM .int μ [.int x] = some (.int x) := fun _ _ => rfl
  have ib : ∀ (μ : Mu) (x : Bool), bltM .int μ [.bl x] = some (.int (if x then 1 else 0)) := fun _ _ => rfl
  have md : ∀ (μ : Mu) (x : Int), binM .mod μ (.int x) (.int 1009) = some (.int (x % 1009)) := fun _ x => mod_int (by decide)
  have pw : ∀ μ : Mu, binM .pow μ (.int 10) (.int 18) = some (.int (10 ^ 18)) := fun _ => rfl
  simp -implicitDefEqProofs only [rns_cons, rns_nil, sL_cons, sL_nil, eL_cons, eL_nil, rn, ev, evT, evs, evo, evq, evi, evC, bnd_ok, calm_ok, opt_some, nxt_nx, nxt_ret, nxt_brk, nxt_ct, ev_ok, fresh, bindT, bindTs, setSl, Option.map_some, Option.map_none, List.getElem?_cons_zero, List.getElem?_cons_succ, List.set_cons_zero, List.set_cons_succ, List.length_cons, List.length_nil, Nat.reduceAdd, Nat.reduceLT, Nat.zero_lt_succ, Nat.reduceSub, if_true, ite_tt, ite_ff, Bool.false_eq_true, if_false, in_str, lt_int, le_int, gt_int, ge_int, eq_int, ne_int, eq_bl, ne_bl, len_lst, len_tup, add_int, sub_int, sub_lst, sub_tup, tru_bl, recvM]
  by_cases h1 : (0 : Int) - 10 < c
  · by_cases h2 : c < 10
    · simp -implicitDefEqProofs only [rns_cons, rns_nil, sL_cons, sL_nil, eL_cons, eL_nil, rn, ev, evT, evs, evo, evq, evi, evC, bnd_ok, calm_ok, opt_some, nxt_nx, nxt_ret, nxt_brk, nxt_ct, ev_ok, fresh, bindT, bindTs, setSl, Option.map_some, Option.map_none, List.getElem?_cons_zero, List.getElem?_cons_succ, List.set_cons_zero, List.set_cons_succ, List.length_cons, List.length_nil, Nat.reduceAdd, Nat.reduceLT, Nat.zero_lt_succ, Nat.reduceSub, if_true, ite_tt, ite_ff, Bool.false_eq_true, if_false, in_str, lt_int, le_int, gt_int, ge_int, eq_int, ne_int, eq_bl, ne_bl, len_lst, len_tup, add_int, sub_int, sub_lst, sub_tup, tru_bl, recvM, decide_eq_true h1, decide_eq_true h2, ab]
      exact ⟨_, rfl, rfl, _, _, _, rfl⟩
    · simp -implicitDefEqProofs only [rns_cons, rns_nil, sL_cons, sL_nil, eL_cons, eL_nil, rn, ev, evT, evs, evo, evq, evi, evC, bnd_ok, calm_ok, opt_some, nxt_nx, nxt_ret, nxt_brk, nxt_ct, ev_ok, fresh, bindT, bindTs, setSl, Option.map_some, Option.map_none, List.getElem?_cons_zero, List.getElem?_cons_succ, List.set_cons_zero, List.set_cons_succ, List.length_cons, List.length_nil, Nat.reduceAdd, Nat.reduceLT, Nat.zero_lt_succ, Nat.reduceSub, if_true, ite_tt, ite_ff, Bool.false_eq_true, if_false, in_str, lt_int, le_int, gt_int, ge_int, eq_int, ne_int, eq_bl, ne_bl, len_lst, len_tup, add_int, sub_int, sub_lst, sub_tup, tru_bl, recvM, decide_eq_true h1, decide_eq_false h2, ii, ib, md, pw]
      exact ⟨_, rfl, rfl, _, _, _, rfl⟩
  · simp -implicitDefEqProofs only [rns_cons, rns_nil, sL_cons, sL_nil, eL_cons, eL_nil, rn, ev, evT, evs, evo, evq, evi, evC, bnd_ok, calm_ok, opt_some, nxt_nx, nxt_ret, nxt_brk, nxt_ct, ev_ok, fresh, bindT, bindTs, setSl, Option.map_some, Option.map_none, List.getElem?_cons_zero, List.getElem?_cons_succ, List.set_cons_zero, List.set_cons_succ, List.length_cons, List.length_nil, Nat.reduceAdd, Nat.reduceLT, Nat.zero_lt_succ, Nat.reduceSub, if_true, ite_tt, ite_ff, Bool.false_eq_true, if_false, in_str, lt_int, le_int, gt_int, ge_int, eq_int, ne_int, eq_bl, ne_bl, len_lst, len_tup, add_int, sub_int, sub_lst, sub_tup, tru_bl, recvM, decide_eq_false h1, ii, ib, md, pw]
    exact ⟨_, rfl, rfl, _, _, _, rfl⟩
theorem f_rounds (n : Nat) (ns : List Int) : Ev ((K (n + 2)).fn 16 [.scr ns, .int 1] []) fun d μ' => d = .lst [.ref 0] ∧ IsDM μ' := by
  rw [fn_at (d := dF__law_rounds) rfl]
  show Ev (fun_ (K (n + 1)) 4 true b__law_rounds [.scr ns, .int 1] []) _
  refine fun_keep [some (.scr ns), some (.int 1), none, none] rfl ?_
  unfold b__law_rounds
  have sl : slcM ([] : Mu) (.scr ns) none (some 1) = some (.lst ((ns.take 1).map .int)) := by
    show some (D.lst ((cutL ns none (some 1)).map .int)) = _
    have := clip_nat (n := ns.length) (d := ns.length) (i := 1)
    unfold cutL
    rw [clip_none, show (some (1 : Int)) = some ((1 : Nat) : Int) from rfl, this]
    congr 3
    simp [List.take_eq_take_iff]
  have one : ∀ (s : D) (c : Int), Ev (mapR [] (turnM (.one 3) [some s, some (.int 1), some (.lst [.int c]), none] (fun x x_1 => R.ok true x_1) fun x x_1 => ((match x[3]? with
      | some (some d) => R.ok d x_1
      | x => R.no).bnd fun x μ => R.ok [x] μ).bnd fun xs μ => (K (n + 1)).fn 14 xs μ) [.int c] []) fun ys μ' => ys = [.ref 0] ∧ IsDM μ' := fun s c => by
    unfold mapR
    rw [if_pos wOk_nil, ev_bnd, turnM_1 (by simp)]
    simp -implicitDefEqProofs only [rns_cons, rns_nil, sL_cons, sL_nil, eL_cons, eL_nil, rn, ev, evT, evs, evo, evq, evi, evC, bnd_ok, calm_ok, opt_some, nxt_nx, nxt_ret, nxt_brk, nxt_ct, ev_ok, fresh, bindT, bindTs, setSl, Option.map_some, Option.map_none, List.getElem?_cons_zero, List.getElem?_cons_succ, List.set_cons_zero, List.set_cons_succ, List.length_cons, List.length_nil, Nat.reduceAdd, Nat.reduceLT, Nat.zero_lt_succ, Nat.reduceSub, if_true, ite_tt, ite_ff, Bool.false_eq_true, if_false, in_str, lt_int, le_int, gt_int, ge_int, eq_int, ne_int, eq_bl, ne_bl, len_lst, len_tup, add_int, sub_int, sub_lst, sub_tup, tru_bl, recvM]
    rw [ev_bnd]
    refine (f_dice n c).mono fun d μ' ⟨hd, hm⟩ => ?_
    subst hd
    unfold mapR
    simp -implicitDefEqProofs only [rns_cons, rns_nil, sL_cons, sL_nil, eL_cons, eL_nil, rn, ev, evT, evs, evo, evq, evi, evC, bnd_ok, calm_ok, opt_some, nxt_nx, nxt_ret, nxt_brk, nxt_ct, ev_ok, fresh, bindT, bindTs, setSl, Option.map_some, Option.map_none, List.getElem?_cons_zero, List.getElem?_cons_succ, List.set_cons_zero, List.set_cons_succ, List.length_cons, List.length_nil, Nat.reduceAdd, Nat.reduceLT, Nat.zero_lt_succ, Nat.reduceSub, if_true, ite_tt, ite_ff, Bool.false_eq_true, if_false, in_str, lt_int, le_int, gt_int, ge_int, eq_int, ne_int, eq_bl, ne_bl, len_lst, len_tup, add_int, sub_int, sub_lst, sub_tup, tru_bl, recvM, wOk_nil]
    exact ⟨(by first | exact True.intro | rfl | contradiction | assumption), hm⟩
  cases ns with
  | nil =>
    have e : ([] : List Int).take 1 = [] := rfl
    rw [e] at sl
    have e0 : cmpM .eq ([] : Mu) (.lst []) (.lst []) = some true := rfl
    simp -implicitDefEqProofs only [rns_cons, rns_nil, sL_cons, sL_nil, eL_cons, eL_nil, rn, ev, evT, evs, evo, evq, evi, evC, bnd_ok, calm_ok, opt_some, nxt_nx, nxt_ret, nxt_brk, nxt_ct, ev_ok, fresh, bindT, bindTs, setSl, Option.map_some, Option.map_none, List.getElem?_cons_zero, List.getElem?_cons_succ, List.set_cons_zero, List.set_cons_succ, List.length_cons, List.length_nil, Nat.reduceAdd, Nat.reduceLT, Nat.zero_lt_succ, Nat.reduceSub, if_true, ite_tt, ite_ff, Bool.false_eq_true, if_false, in_str, lt_int, le_int, gt_int, ge_int, eq_int, ne_int, eq_bl, ne_bl, len_lst, len_tup, add_int, sub_int, sub_lst, sub_tup, tru_bl, recvM, sl, e0, evo, List.map_nil, seq_lst]
    simp only [ev_bnd, ev_calm]
    refine (one _ 0).mono fun ys μ' ⟨hy, hm⟩ => ?_
    subst hy
    simp -implicitDefEqProofs only [rns_cons, rns_nil, sL_cons, sL_nil, eL_cons, eL_nil, rn, ev, evT, evs, evo, evq, evi, evC, bnd_ok, calm_ok, opt_some, nxt_nx, nxt_ret, nxt_brk, nxt_ct, ev_ok, fresh, bindT, bindTs, setSl, Option.map_some, Option.map_none, List.getElem?_cons_zero, List.getElem?_cons_succ, List.set_cons_zero, List.set_cons_succ, List.length_cons, List.length_nil, Nat.reduceAdd, Nat.reduceLT, Nat.zero_lt_succ, Nat.reduceSub, if_true, ite_tt, ite_ff, Bool.false_eq_true, if_false, in_str, lt_int, le_int, gt_int, ge_int, eq_int, ne_int, eq_bl, ne_bl, len_lst, len_tup, add_int, sub_int, sub_lst, sub_tup, tru_bl, recvM]
    exact ⟨_, rfl, rfl, hm⟩
  | cons c ns =>
    have e : (c :: ns).take 1 = [c] := rfl
    rw [e] at sl
    have e0 : cmpM .eq ([] : Mu) (.lst ([c].map .int)) (.lst []) = some false := rfl
    simp -implicitDefEqProofs only [rns_cons, rns_nil, sL_cons, sL_nil, eL_cons, eL_nil, rn, ev, evT, evs, evo, evq, evi, evC, bnd_ok, calm_ok, opt_some, nxt_nx, nxt_ret, nxt_brk, nxt_ct, ev_ok, fresh, bindT, bindTs, setSl, Option.map_some, Option.map_none, List.getElem?_cons_zero, List.getElem?_cons_succ, List.set_cons_zero, List.set_cons_succ, List.length_cons, List.length_nil, Nat.reduceAdd, Nat.reduceLT, Nat.zero_lt_succ, Nat.reduceSub, if_true, ite_tt, ite_ff, Bool.false_eq_true, if_false, in_str, lt_int, le_int, gt_int, ge_int, eq_int, ne_int, eq_bl, ne_bl, len_lst, len_tup, add_int, sub_int, sub_lst, sub_tup, tru_bl, recvM, sl, e0, evo, seq_lst]
    simp only [ev_bnd, ev_calm]
    refine (one _ c).mono fun ys μ' ⟨hy, hm⟩ => ?_
    subst hy
    simp -implicitDefEqProofs only [rns_cons, rns_nil, sL_cons, sL_nil, eL_cons, eL_nil, rn, ev, evT, evs, evo, evq, evi, evC, bnd_ok, calm_ok, opt_some, nxt_nx, nxt_ret, nxt_brk, nxt_ct, ev_ok, fresh, bindT, bindTs, setSl, Option.map_some, Option.map_none, List.getElem?_cons_zero, List.getElem?_cons_succ, List.set_cons_zero, List.set_cons_succ, List.length_cons, List.length_nil, Nat.reduceAdd, Nat.reduceLT, Nat.zero_lt_succ, Nat.reduceSub, if_true, ite_tt, ite_ff, Bool.false_eq_true, if_false, in_str, lt_int, le_int, gt_int, ge_int, eq_int, ne_int, eq_bl, ne_bl, len_lst, len_tup, add_int, sub_int, sub_lst, sub_tup, tru_bl, recvM]
    exact ⟨_, rfl, rfl, hm⟩
theorem rng_small {r : Nat} (h : r < 1000) : rngM [.int (r : Int)] = some (intz (List.range r)) := rng_nat (by omega)
theorem f_tline (n : Nat) (μ : Mu) (hμ : IsDM μ) (many : Int) (h1 : 1 ≤ many) (h2 : many ≤ 80) : Ev ((K (n + 2)).fn 18 [.ref 0, .int many] μ) fun d μ' => ∃ t : T, d = .str t ∧ Tx t ∧ (t.length : Int) < many ∧ IsDM μ' := by
  rw [fn_at (d := dF__law_line) rfl]
  show Ev (fun_ (K (n + 1)) 3 false b__law_line [.ref 0, .int many] μ) _
  refine fun_ret2 [some (.ref 0), some (.int many), none] rfl ?_
  unfold b__law_line
  have hlen1 : μ.length = 1 := by obtain ⟨a, b, m, rfl⟩ := hμ; rfl
  simp -implicitDefEqProofs only [rns_cons, rns_nil, sL_cons, sL_nil, eL_cons, eL_nil, rn, ev, evT, evs, evo, evq, evi, evC, bnd_ok, calm_ok, opt_some, nxt_nx, nxt_ret, nxt_brk, nxt_ct, ev_ok, fresh, bindT, bindTs, setSl, Option.map_some, Option.map_none, List.getElem?_cons_zero, List.getElem?_cons_succ, List.set_cons_zero, List.set_cons_succ, List.length_cons, List.length_nil, Nat.reduceAdd, Nat.reduceLT, Nat.zero_lt_succ, Nat.reduceSub, if_true, ite_tt, ite_ff, Bool.false_eq_true, if_false, in_str, lt_int, le_int, gt_int, ge_int, eq_int, ne_int, eq_bl, ne_bl, len_lst, len_tup, add_int, sub_int, sub_lst, sub_tup, tru_bl, recvM]
  simp only [ev_bnd, ev_calm]
  refine (f_roll n μ hμ many h1 (by omega)).mono fun d μ1 ⟨r, hd, hr, hm⟩ => ?_
  subst hd
  simp -implicitDefEqProofs only [rns_cons, rns_nil, sL_cons, sL_nil, eL_cons, eL_nil, rn, ev, evT, evs, evo, evq, evi, evC, bnd_ok, calm_ok, opt_some, nxt_nx, nxt_ret, nxt_brk, nxt_ct, ev_ok, fresh, bindT, bindTs, setSl, Option.map_some, Option.map_none, List.getElem?_cons_zero, List.getElem?_cons_succ, List.set_cons_zero, List.set_cons_succ, List.length_cons, List.length_nil, Nat.reduceAdd, Nat.reduceLT, Nat.zero_lt_succ, Nat.reduceSub, if_true, ite_tt, ite_ff, Bool.false_eq_true, if_false, in_str, lt_int, le_int, gt_int, ge_int, eq_int, ne_int, eq_bl, ne_bl, len_lst, len_tup, add_int, sub_int, sub_lst, sub_tup, tru_bl, recvM, rng_small (show r < 1000 by omega)]
  refine (ev_mapS IsDM (fun y => ∃ c ∈ [97, 98, 65, 66, 49, 50, 46, 32, 40, 41, 44, 45], y = .str [c]) (fun _ _ => rfl) (fun x hx μ hμ => ?_) hm).mono fun ys μ2 ⟨g1, g2, g3⟩ => ?_
  · rw [turnM_1 (by simp)]
    simp -implicitDefEqProofs only [rns_cons, rns_nil, sL_cons, sL_nil, eL_cons, eL_nil, rn, ev, evT, evs, evo, evq, evi, evC, bnd_ok, calm_ok, opt_some, nxt_nx, nxt_ret, nxt_brk, nxt_ct, ev_ok, fresh, bindT, bindTs, setSl, Option.map_some, Option.map_none, List.getElem?_cons_zero, List.getElem?_cons_succ, List.set_cons_zero, List.set_cons_succ, List.length_cons, List.length_nil, Nat.reduceAdd, Nat.reduceLT, Nat.zero_lt_succ, Nat.reduceSub, if_true, ite_tt, ite_ff, Bool.false_eq_true, if_false, in_str, lt_int, le_int, gt_int, ge_int, eq_int, ne_int, eq_bl, ne_bl, len_lst, len_tup, add_int, sub_int, sub_lst, sub_tup, tru_bl, recvM]
    simp only [ev_bnd]
    refine (f_roll n μ hμ 12 (by omega) (by omega)).mono fun d μ1 ⟨r, hd, hr, hm⟩ => ?_
    subst hd
    have hr12 : r < 12 := by omega
    have at_ : ∃ c ∈ [97, 98, 65, 66, 49, 50, 46, 32, 40, 41, 44, 45], atD [D.str [97], .str [98], .str [65], .str [66], .str [49], .str [50], .str [46], .str [32], .str [40], .str [41], .str [44], .str [45]] (r : Int) = some (.str [c]) := by
      match r, hr12 with
      | 0, _ => exact ⟨97, by simp, rfl⟩
      | 1, _ => exact ⟨98, by simp, rfl⟩
      | 2, _ => exact ⟨65, by simp, rfl⟩
      | 3, _ => exact ⟨66, by simp, rfl⟩
      | 4, _ => exact ⟨49, by simp, rfl⟩
      | 5, _ => exact ⟨50, by simp, rfl⟩
      | 6, _ => exact ⟨46, by simp, rfl⟩
      | 7, _ => exact ⟨32, by simp, rfl⟩
      | 8, _ => exact ⟨40, by simp, rfl⟩
      | 9, _ => exact ⟨41, by simp, rfl⟩
      | 10, _ => exact ⟨44, by simp, rfl⟩
      | 11, _ => exact ⟨45, by simp, rfl⟩
    obtain ⟨c, hc, at_⟩ := at_
    simp -implicitDefEqProofs only [rns_cons, rns_nil, sL_cons, sL_nil, eL_cons, eL_nil, rn, ev, evT, evs, evo, evq, evi, evC, bnd_ok, calm_ok, opt_some, nxt_nx, nxt_ret, nxt_brk, nxt_ct, ev_ok, fresh, bindT, bindTs, setSl, Option.map_some, Option.map_none, List.getElem?_cons_zero, List.getElem?_cons_succ, List.set_cons_zero, List.set_cons_succ, List.length_cons, List.length_nil, Nat.reduceAdd, Nat.reduceLT, Nat.zero_lt_succ, Nat.reduceSub, if_true, ite_tt, ite_ff, Bool.false_eq_true, if_false, in_str, lt_int, le_int, gt_int, ge_int, eq_int, ne_int, eq_bl, ne_bl, len_lst, len_tup, add_int, sub_int, sub_lst, sub_tup, tru_bl, recvM, at_]
    exact ⟨_, rfl, ⟨c, hc, rfl⟩, hm⟩
  · obtain ⟨cs, rfl, hcs⟩ := ys_str g2
    have hl : cs.length = r := by simpa using g1
    simp -implicitDefEqProofs only [rns_cons, rns_nil, sL_cons, sL_nil, eL_cons, eL_nil, rn, ev, evT, evs, evo, evq, evi, evC, bnd_ok, calm_ok, opt_some, nxt_nx, nxt_ret, nxt_brk, nxt_ct, ev_ok, fresh, bindT, bindTs, setSl, Option.map_some, Option.map_none, List.getElem?_cons_zero, List.getElem?_cons_succ, List.set_cons_zero, List.set_cons_succ, List.length_cons, List.length_nil, Nat.reduceAdd, Nat.reduceLT, Nat.zero_lt_succ, Nat.reduceSub, if_true, ite_tt, ite_ff, Bool.false_eq_true, if_false, in_str, lt_int, le_int, gt_int, ge_int, eq_int, ne_int, eq_bl, ne_bl, len_lst, len_tup, add_int, sub_int, sub_lst, sub_tup, tru_bl, recvM, join_sing (l := cs) (μ := μ2) (by rw [hl]; unfold LINE; omega)]
    have hl2 : μ2.length = 1 := by obtain ⟨a, b, m, rfl⟩ := g3; rfl
    exact ⟨_, .inl rfl, _, _, done_same (by rw [hl2, hlen1]) g3.dry rfl, cs, rfl, ⟨by omega, hcs⟩, by omega, g3⟩
end Mi
set_option Elab.async false
set_option linter.all false
set_option maxRecDepth 100000
set_option maxHeartbeats 4000000
/-! P24: sides mixed, places, runs. -/
namespace Mi
theorem in_lst_str {μ : Mu} {k : T} {l : List T} : cmpM .isin μ (.str k) (.lst (l.map .str)) = some (l.any fun x => x == k) := by
  have e : cmpM .isin μ (.str k) (.lst (l.map .str)) = if flat (.str k) && (l.map D.str).all flat then some ((l.map D.str).any (eqv · (.str k))) else none := rfl
  have f : (l.map D.str).all flat = true := by simp [List.all_map, flat]
  rw [e, f, if_pos (by rfl), List.any_map]
  rfl
theorem f_mixed (n : Nat) (t : T) (μ : Mu) (hμ : drys μ = true) (ht : Tx t) : (K (n + 2)).fn 11 [.str t] μ = .ok (.bl ((t.any fun c => kindC c == [76]) && (t.any fun c => kindC c == [82]))) μ := by
  rw [fn_at (d := dF_is_mixed) rfl]
  show fun_ (K (n + 1)) 3 false b_is_mixed [.str t] μ = _
  refine fun_ret [some (.str t), none, none] rfl ?_
  unfold b_is_mixed
  simp -implicitDefEqProofs only [rns_cons, rns_nil, sL_cons, sL_nil, eL_cons, eL_nil, rn, ev, evT, evs, evo, evq, evi, evC, bnd_ok, calm_ok, opt_some, nxt_nx, nxt_ret, nxt_brk, nxt_ct, ev_ok, fresh, bindT, bindTs, setSl, Option.map_some, Option.map_none, List.getElem?_cons_zero, List.getElem?_cons_succ, List.set_cons_zero, List.set_cons_succ, List.length_cons, List.length_nil, Nat.reduceAdd, Nat.reduceLT, Nat.zero_lt_succ, Nat.reduceSub, if_true, ite_tt, ite_ff, Bool.false_eq_true, if_false, in_str, lt_int, le_int, gt_int, ge_int, eq_int, ne_int, eq_bl, ne_bl, len_lst, len_tup, add_int, sub_int, sub_lst, sub_tup, tru_bl, recvM, seq_str ht.line]
  simp only [ev_bnd, ev_calm]
  refine ev_mapR (fun c => .str (kindC c)) rfl (fun c _ => ?_) ?_
  · rw [turnM_1 (by simp)]
    simp -implicitDefEqProofs only [rns_cons, rns_nil, sL_cons, sL_nil, eL_cons, eL_nil, rn, ev, evT, evs, evo, evq, evi, evC, bnd_ok, calm_ok, opt_some, nxt_nx, nxt_ret, nxt_brk, nxt_ct, ev_ok, fresh, bindT, bindTs, setSl, Option.map_some, Option.map_none, List.getElem?_cons_zero, List.getElem?_cons_succ, List.set_cons_zero, List.set_cons_succ, List.length_cons, List.length_nil, Nat.reduceAdd, Nat.reduceLT, Nat.zero_lt_succ, Nat.reduceSub, if_true, ite_tt, ite_ff, Bool.false_eq_true, if_false, in_str, lt_int, le_int, gt_int, ge_int, eq_int, ne_int, eq_bl, ne_bl, len_lst, len_tup, add_int, sub_int, sub_lst, sub_tup, tru_bl, recvM, f_kind n c μ hμ]
  rw [show (t.map fun c => D.str (kindC c)) = (t.map kindC).map .str by rw [List.map_map]; rfl]
  simp -implicitDefEqProofs only [rns_cons, rns_nil, sL_cons, sL_nil, eL_cons, eL_nil, rn, ev, evT, evs, evo, evq, evi, evC, bnd_ok, calm_ok, opt_some, nxt_nx, nxt_ret, nxt_brk, nxt_ct, ev_ok, fresh, bindT, bindTs, setSl, Option.map_some, Option.map_none, List.getElem?_cons_zero, List.getElem?_cons_succ, List.set_cons_zero, List.set_cons_succ, List.length_cons, List.length_nil, Nat.reduceAdd, Nat.reduceLT, Nat.zero_lt_succ, Nat.reduceSub, if_true, ite_tt, ite_ff, Bool.false_eq_true, if_false, in_str, lt_int, le_int, gt_int, ge_int, eq_int, ne_int, eq_bl, ne_bl, len_lst, len_tup, add_int, sub_int, sub_lst, sub_tup, tru_bl, recvM, in_lst_str]
  have a1 : ((t.map kindC).any fun x => x == [76]) = t.any fun c => kindC c == [76] := by rw [List.any_map]; rfl
  have a2 : ((t.map kindC).any fun x => x == [82]) = t.any fun c => kindC c == [82] := by rw [List.any_map]; rfl
  rw [a1, a2]
  cases q : t.any fun c => kindC c == [76]
  · simp -implicitDefEqProofs only [rns_cons, rns_nil, sL_cons, sL_nil, eL_cons, eL_nil, rn, ev, evT, evs, evo, evq, evi, evC, bnd_ok, calm_ok, opt_some, nxt_nx, nxt_ret, nxt_brk, nxt_ct, ev_ok, fresh, bindT, bindTs, setSl, Option.map_some, Option.map_none, List.getElem?_cons_zero, List.getElem?_cons_succ, List.set_cons_zero, List.set_cons_succ, List.length_cons, List.length_nil, Nat.reduceAdd, Nat.reduceLT, Nat.zero_lt_succ, Nat.reduceSub, if_true, ite_tt, ite_ff, Bool.false_eq_true, if_false, in_str, lt_int, le_int, gt_int, ge_int, eq_int, ne_int, eq_bl, ne_bl, len_lst, len_tup, add_int, sub_int, sub_lst, sub_tup, tru_bl, recvM]
    exact ⟨_, .inl rfl, done_dry0 hμ rfl⟩
  · simp -implicitDefEqProofs only [rns_cons, rns_nil, sL_cons, sL_nil, eL_cons, eL_nil, rn, ev, evT, evs, evo, evq, evi, evC, bnd_ok, calm_ok, opt_some, nxt_nx, nxt_ret, nxt_brk, nxt_ct, ev_ok, fresh, bindT, bindTs, setSl, Option.map_some, Option.map_none, List.getElem?_cons_zero, List.getElem?_cons_succ, List.set_cons_zero, List.set_cons_succ, List.length_cons, List.length_nil, Nat.reduceAdd, Nat.reduceLT, Nat.zero_lt_succ, Nat.reduceSub, if_true, ite_tt, ite_ff, Bool.false_eq_true, if_false, in_str, lt_int, le_int, gt_int, ge_int, eq_int, ne_int, eq_bl, ne_bl, len_lst, len_tup, add_int, sub_int, sub_lst, sub_tup, tru_bl, recvM]
    exact ⟨_, .inl rfl, by rw [Bool.true_and]; exact done_dry0 hμ rfl⟩
/-! ### places -/
def jx (o : List Nat) (k : Nat) : Nat := (indexD (.int (k : Int)) 0 (intz o)).getD 0
theorem index_some {k : Nat} : ∀ {o : List Nat} {j : Nat}, k ∈ o → ∃ i, indexD (.int (k : Int)) j (intz o) = some i
  | p :: o, j, h => by
    show ∃ i, (if eqv (.int (p : Int)) (.int (k : Int)) = true then some j else indexD (.int (k : Int)) (j + 1) (intz o)) = some i
    by_cases q : p = k
    · exact ⟨j, by rw [if_pos (by rw [q]; simp [eqv])]⟩
    · have hm : k ∈ o := (List.mem_cons.mp h).resolve_left fun z => q z.symm
      obtain ⟨i, hi⟩ := index_some (o := o) (j := j + 1) hm
      exact ⟨i, by rw [if_neg (by simp [eqv]; omega)]; exact hi⟩
theorem ix_ok {o : List Nat} {k : Nat} (h : k ∈ o) : indexD (.int (k : Int)) 0 (intz o) = some (jx o k) := by
  obtain ⟨i, hi⟩ := index_some (j := 0) h
  unfold jx
  rw [hi]
  rfl
theorem flat_intz (o : List Nat) : (intz o).all flat = true := by simp [intz, List.all_map, flat]
theorem ix_tup {μ : Mu} {o : List Nat} {k : Nat} (h : k ∈ o) : mthM .index μ (.tup true (intz o)) [.int (k : Int)] = some (.int (jx o k)) := by
  have e : mthM .index μ (.tup true (intz o)) [.int (k : Int)] = if flat (.int (k : Int)) && (intz o).all flat then (indexD (.int (k : Int)) 0 (intz o)).map (fun k => D.int k) else none := rfl
  rw [e, flat_intz, if_pos (by rfl), ix_ok h]
  rfl
theorem ix_lst {μ : Mu} {o : List Nat} {k : Nat} (h : k ∈ o) : mthM .index μ (.lst (intz o)) [.int (k : Int)] = some (.int (jx o k)) := by
  have e : mthM .index μ (.lst (intz o)) [.int (k : Int)] = if flat (.int (k : Int)) && (intz o).all flat then (indexD (.int (k : Int)) 0 (intz o)).map (fun k => D.int k) else none := rfl
  rw [e, flat_intz, if_pos (by rfl), ix_ok h]
  rfl
theorem lev4 {b : Int} (hb : b = 0 ∨ b = 1) (t : T) : ∀ x ∈ levels b t, 0 ≤ x ∧ x ≤ (4 : Nat) := fun x hx => ⟨(levels_le hb t x hx).1, by have := (levels_le hb t x hx).2; omega⟩
theorem ord_mem {lv : List Int} {k : Nat} : k ∈ sorder lv ↔ k < lv.length := by
  show k ∈ sord lv (top lv) ↔ _
  rw [(sord_perm lv (top lv)).mem_iff, List.mem_range]
theorem ord_len (lv : List Int) : (sorder lv).length = lv.length := by
  have := (sord_perm lv (top lv)).length_eq
  rw [List.length_range] at this
  exact this
theorem f_place (n : Nat) (t : T) (b : Int) (k : Nat) (μ : Mu) (hμ : drys μ = true) (ht : Tx t) (hb : b = 0 ∨ b = 1) (hk : k < t.length) : (K (n + 4)).fn 8 [.str t, .int b, .int (k : Int)] μ = .ok (.int (jx (sorder (levels b t)) k)) μ := by
  rw [fn_at (d := dF_place_seen) rfl]
  show fun_ (K (n + 3)) 4 false b_place_seen [.str t, .int b, .int (k : Int)] μ = _
  refine fun_ret [some (.str t), some (.int b), some (.int (k : Int)), none] rfl ?_
  unfold b_place_seen
  have hl80 : (levels b t).length ≤ 80 := by rw [levels_len]; exact ht.len
  have hlen : (intz (sorder (levels b t))).length = t.length := by rw [List.length_map, ord_len, levels_len]
  have hm : k ∈ sorder (levels b t) := ord_mem.mpr (by rw [levels_len]; exact hk)
  simp -implicitDefEqProofs only [rns_cons, rns_nil, sL_cons, sL_nil, eL_cons, eL_nil, rn, ev, evT, evs, evo, evq, evi, evC, bnd_ok, calm_ok, opt_some, nxt_nx, nxt_ret, nxt_brk, nxt_ct, ev_ok, fresh, bindT, bindTs, setSl, Option.map_some, Option.map_none, List.getElem?_cons_zero, List.getElem?_cons_succ, List.set_cons_zero, List.set_cons_succ, List.length_cons, List.length_nil, Nat.reduceAdd, Nat.reduceLT, Nat.zero_lt_succ, Nat.reduceSub, if_true, ite_tt, ite_ff, Bool.false_eq_true, if_false, in_str, lt_int, le_int, gt_int, ge_int, eq_int, ne_int, eq_bl, ne_bl, len_lst, len_tup, add_int, sub_int, sub_lst, sub_tup, tru_bl, recvM, p_levels n t b μ hμ ht hb, f_ord_tup (n + 2) (levels b t) true μ hμ hl80 (lev4 hb t), hlen, decide_eq_true (show (0 : Int) ≤ (k : Int) by omega), decide_eq_true (show (k : Int) < (t.length : Int) by omega), Bool.not_true, view, ix_tup hm]
  exact ⟨_, .inl rfl, done_dry0 hμ rfl⟩
/-! ### runs -/
abbrev Row := Nat × Nat × Int
abbrev rowD (r : Row) : D := .tup false [.int (r.1 : Int), .int (r.2.1 : Int), .int r.2.2]
def rstep (R : List Row) (k : Nat) (l : Int) : List Row := match R.getLast? with
  | some r => if r.2.2 = l then R.dropLast ++ [(r.1, k + 1, l)] else R ++ [(k, k + 1, l)]
  | none => [(k, k + 1, l)]
def rowsAt (lv : List Int) : Nat → List Row
  | 0 => []
  | k + 1 => rstep (rowsAt lv k) k (lv.getD k 0)
abbrev rowz (R : List Row) : List D := R.map rowD
theorem plains_rowz : ∀ (R : List Row), plains 19 (rowz R) = true
  | [] => rfl
  | r :: R => by
    show (plain 19 (rowD r) && plains 19 (rowz R)) = true
    rw [plains_rowz R, Bool.and_true]
    rfl
theorem rowsAt_len (lv : List Int) : ∀ k, (rowsAt lv k).length ≤ k
  | 0 => Nat.le_refl _
  | k + 1 => by
    have ih := rowsAt_len lv k
    show (rstep _ _ _).length ≤ _
    unfold rstep
    split
    · split
      · simp; omega
      · simp; omega
    · simp
theorem rowsAt_lv {lv : List Int} : ∀ {k : Nat}, k ≤ lv.length → ∀ r ∈ rowsAt lv k, r.2.2 ∈ lv
  | 0, _, r, h => absurd h List.not_mem_nil
  | k + 1, hk, r, h => by
    have ih := rowsAt_lv (lv := lv) (k := k) (by omega)
    have hm : lv.getD k 0 ∈ lv := by
      have e : lv.getD k 0 = lv[k] := by simp [List.getD, List.getElem?_eq_getElem (show k < lv.length by omega)]
      rw [e]
      exact List.getElem_mem _
    have h : r ∈ rstep (rowsAt lv k) k (lv.getD k 0) := h
    unfold rstep at h
    split at h
    · split at h
      · rcases List.mem_append.mp h with z | z
        · exact ih r ((List.dropLast_sublist _).subset z)
        · simp at z; rw [z]; exact hm
      · rcases List.mem_append.mp h with z | z
        · exact ih r z
        · simp at z; rw [z]; exact hm
    · simp at h; rw [h]; exact hm
theorem last_row {μ : Mu} {R : List Row} {r : Row} (h : R.getLast? = some r) : atD (rowz R) (-1) = some (rowD r) := atD_neg1 (by rw [List.getLast?_map, h]; rfl)
theorem set_last {μ : Mu} {c : Nat} {xs : List D} {v : D} (h : μ[c]? = some (.lst xs)) (hne : xs ≠ []) : setM μ (.ref c) (.int (-1)) v = some (μ.set c (.lst (xs.dropLast ++ [v]))) := by
  have hl : 0 < xs.length := List.length_pos_iff.mpr hne
  have e : ixD xs.length (-1) = some (xs.length - 1) := by
    unfold ixD
    rw [if_neg (by omega), if_pos (by omega)]
    congr 1
    omega
  have e2 : xs.set (xs.length - 1) v = xs.dropLast ++ [v] := by
    obtain ⟨ys, y, rfl⟩ : ∃ ys y, xs = ys ++ [y] := ⟨xs.dropLast, xs.getLast hne, (List.dropLast_concat_getLast hne).symm⟩
    rw [List.length_append, List.length_singleton, Nat.add_sub_cancel, List.dropLast_concat, List.set_append_right _ _ (Nat.le_refl _), Nat.sub_self]
    rfl
  simp only [setM, h, e, Option.map_some, e2]
theorem slc_init {μ : Mu} {xs : List D} : slcM μ (.lst xs) none (some (-1)) = some (.lst xs.dropLast) := by
  show some (D.lst (cutL xs none (some (-1)))) = _
  unfold cutL clip
  have e : ((-1 : Int) + xs.length).toNat = xs.length - 1 := by omega
  simp only [e, List.drop_zero, Nat.sub_zero]
  rw [List.dropLast_eq_take]
  rfl
theorem f_runs (n : Nat) (t : T) (b : Int) (μ : Mu) (hμ : drys μ = true) (ht : Tx t) (hb : b = 0 ∨ b = 1) (R : List Row) (hR : rowsAt (levels b t) t.length = R) :
    (K (n + 4)).fn 9 [.str t, .int b] μ = .ok (.tup true ((sorder (R.map fun r => r.2.2)).map fun k => rowD (R.getD k (0, 0, 0)))) μ := by
  rw [fn_at (d := dF_runs_seen) rfl]
  show fun_ (K (n + 3)) 8 false b_runs_seen [.str t, .int b] μ = _
  refine fun_ret [some (.str t), some (.int b), none, none, none, none, none, none] rfl ?_
  unfold b_runs_seen
  have hlen := levels_len b t
  simp -implicitDefEqProofs only [rns_cons, rns_nil, sL_cons, sL_nil, eL_cons, eL_nil, rn, ev, evT, evs, evo, evq, evi, evC, bnd_ok, calm_ok, opt_some, nxt_nx, nxt_ret, nxt_brk, nxt_ct, ev_ok, fresh, bindT, bindTs, setSl, Option.map_some, Option.map_none, List.getElem?_cons_zero, List.getElem?_cons_succ, List.set_cons_zero, List.set_cons_succ, List.length_cons, List.length_nil, Nat.reduceAdd, Nat.reduceLT, Nat.zero_lt_succ, Nat.reduceSub, if_true, ite_tt, ite_ff, Bool.false_eq_true, if_false, in_str, lt_int, le_int, gt_int, ge_int, eq_int, ne_int, eq_bl, ne_bl, len_lst, len_tup, add_int, sub_int, sub_lst, sub_tup, tru_bl, recvM, p_levels n t b μ hμ ht hb, seq_tup]
  rw [ev_bnd]
  have cell : ∀ R : List Row, (μ ++ [D.lst (rowz R)])[μ.length]? = some (.lst (rowz R)) := fun R => at_app
  refine for_inv (fun k σ μ' => ∃ a c, σ = [some (.str t), some (.int b), some (.tup true ((levels b t).map .int)), some (.ref μ.length), none, a, c, none] ∧ μ' = μ ++ [.lst (rowz (rowsAt (levels b t) k))]) ⟨_, _, rfl, rfl⟩ (fun _ _ _ _ => rfl) ?_ ?_
  · rintro k x σ μ' hx ⟨a, c, rfl, rfl⟩
    obtain ⟨y, hy, rfl⟩ := enum_at hx
    rw [List.getElem?_map] at hy
    obtain ⟨l, hl, rfl⟩ := Option.map_eq_some_iff.mp hy
    have hk : k < (levels b t).length := (List.getElem?_eq_some_iff.mp hl).1
    have hlD : (levels b t).getD k 0 = l := by simp [List.getD, hl]
    rw [turn_2 (by simp) (by simp), Nat.zero_add]
    have hstep : rowsAt (levels b t) (k + 1) = rstep (rowsAt (levels b t) k) k l := by rw [← hlD]; rfl
    rw [hstep]
    have hRl := rowsAt_len (levels b t) k
    generalize rowsAt (levels b t) k = Q at *
    have hL : (rowz Q).length < LINE := by
      rw [List.length_map]
      have := ht.len
      unfold LINE
      omega
    have ne : ∀ μ : Mu, cmpM .ne (μ ++ [.lst (rowz Q)]) (.ref μ.length) (.lst []) = some (!(rowz Q).isEmpty) := fun μ => by
      have e : cmpM .ne (μ ++ [.lst (rowz Q)]) (.ref μ.length) (.lst []) = cmpM .ne (μ ++ [.lst (rowz Q)]) (.lst (rowz Q)) (.lst []) := by
        unfold cmpM
        simp only [view_cell (at_app (μ := μ) (d := D.lst (rowz Q)) (ν := []))]
        rfl
      rw [e, ne_nil (plains_rowz Q)]
    simp -implicitDefEqProofs only [rns_cons, rns_nil, sL_cons, sL_nil, eL_cons, eL_nil, rn, ev, evT, evs, evo, evq, evi, evC, bnd_ok, calm_ok, opt_some, nxt_nx, nxt_ret, nxt_brk, nxt_ct, ev_ok, fresh, bindT, bindTs, setSl, Option.map_some, Option.map_none, List.getElem?_cons_zero, List.getElem?_cons_succ, List.set_cons_zero, List.set_cons_succ, List.length_cons, List.length_nil, Nat.reduceAdd, Nat.reduceLT, Nat.zero_lt_succ, Nat.reduceSub, if_true, ite_tt, ite_ff, Bool.false_eq_true, if_false, in_str, lt_int, le_int, gt_int, ge_int, eq_int, ne_int, eq_bl, ne_bl, len_lst, len_tup, add_int, sub_int, sub_lst, sub_tup, tru_bl, recvM, ne]
    cases hq : Q.getLast? with
    | none =>
      have hQ : Q = [] := List.getLast?_eq_none_iff.mp hq
      subst hQ
      have e1 : (rowz []).isEmpty = true := rfl
      simp -implicitDefEqProofs only [rns_cons, rns_nil, sL_cons, sL_nil, eL_cons, eL_nil, rn, ev, evT, evs, evo, evq, evi, evC, bnd_ok, calm_ok, opt_some, nxt_nx, nxt_ret, nxt_brk, nxt_ct, ev_ok, fresh, bindT, bindTs, setSl, Option.map_some, Option.map_none, List.getElem?_cons_zero, List.getElem?_cons_succ, List.set_cons_zero, List.set_cons_succ, List.length_cons, List.length_nil, Nat.reduceAdd, Nat.reduceLT, Nat.zero_lt_succ, Nat.reduceSub, if_true, ite_tt, ite_ff, Bool.false_eq_true, if_false, in_str, lt_int, le_int, gt_int, ge_int, eq_int, ne_int, eq_bl, ne_bl, len_lst, len_tup, add_int, sub_int, sub_lst, sub_tup, tru_bl, recvM, e1, Bool.not_true, is_cell (cell []), app_cell (v := D.tup false [.int (k : Int), .int ((k : Int) + 1), .int l]) (cell []) hL, set_app]
      exact ⟨_, .inl rfl, _, _, (by first | exact True.intro | rfl | contradiction | assumption), (by first | exact True.intro | rfl | contradiction | assumption)⟩
    | some r =>
      have hne : Q ≠ [] := fun z => by rw [z] at hq; cases hq
      have hne2 : rowz Q ≠ [] := by simpa using hne
      have e1 : (rowz Q).isEmpty = false := by cases Q with
        | nil => exact absurd rfl hne
        | cons _ _ => rfl
      have la : atD [D.int (r.1 : Int), D.int (r.2.1 : Int), D.int r.2.2] 2 = some (.int r.2.2) := rfl
      have l0 : atD [D.int (r.1 : Int), D.int (r.2.1 : Int), D.int r.2.2] 0 = some (.int (r.1 : Int)) := rfl
      simp -implicitDefEqProofs only [rns_cons, rns_nil, sL_cons, sL_nil, eL_cons, eL_nil, rn, ev, evT, evs, evo, evq, evi, evC, bnd_ok, calm_ok, opt_some, nxt_nx, nxt_ret, nxt_brk, nxt_ct, ev_ok, fresh, bindT, bindTs, setSl, Option.map_some, Option.map_none, List.getElem?_cons_zero, List.getElem?_cons_succ, List.set_cons_zero, List.set_cons_succ, List.length_cons, List.length_nil, Nat.reduceAdd, Nat.reduceLT, Nat.zero_lt_succ, Nat.reduceSub, if_true, ite_tt, ite_ff, Bool.false_eq_true, if_false, in_str, lt_int, le_int, gt_int, ge_int, eq_int, ne_int, eq_bl, ne_bl, len_lst, len_tup, add_int, sub_int, sub_lst, sub_tup, tru_bl, recvM, e1, Bool.not_false, sub_ref (cell Q), last_row (μ := μ) hq, la]
      by_cases h2 : r.2.2 = l
      · have g : (r.2.2 == l) = true := beq_iff_eq.mpr h2
        have hs : rstep Q k l = Q.dropLast ++ [(r.1, k + 1, l)] := by unfold rstep; rw [hq]; simp only [h2, if_true]
        simp -implicitDefEqProofs only [rns_cons, rns_nil, sL_cons, sL_nil, eL_cons, eL_nil, rn, ev, evT, evs, evo, evq, evi, evC, bnd_ok, calm_ok, opt_some, nxt_nx, nxt_ret, nxt_brk, nxt_ct, ev_ok, fresh, bindT, bindTs, setSl, Option.map_some, Option.map_none, List.getElem?_cons_zero, List.getElem?_cons_succ, List.set_cons_zero, List.set_cons_succ, List.length_cons, List.length_nil, Nat.reduceAdd, Nat.reduceLT, Nat.zero_lt_succ, Nat.reduceSub, if_true, ite_tt, ite_ff, Bool.false_eq_true, if_false, in_str, lt_int, le_int, gt_int, ge_int, eq_int, ne_int, eq_bl, ne_bl, len_lst, len_tup, add_int, sub_int, sub_lst, sub_tup, tru_bl, recvM, g, sub_ref (cell Q), last_row (μ := μ) hq, l0, set_last (cell Q) hne2, set_app]
        rw [hs]
        refine ⟨_, .inl rfl, _, _, (by first | exact True.intro | rfl | contradiction | assumption), ?_⟩
        rw [← List.map_dropLast]
        simp [rowz]
      · have g : (r.2.2 == l) = false := beq_eq_false_iff_ne.mpr h2
        have hs : rstep Q k l = Q ++ [(k, k + 1, l)] := by unfold rstep; rw [hq]; simp only [h2, if_false]
        simp -implicitDefEqProofs only [rns_cons, rns_nil, sL_cons, sL_nil, eL_cons, eL_nil, rn, ev, evT, evs, evo, evq, evi, evC, bnd_ok, calm_ok, opt_some, nxt_nx, nxt_ret, nxt_brk, nxt_ct, ev_ok, fresh, bindT, bindTs, setSl, Option.map_some, Option.map_none, List.getElem?_cons_zero, List.getElem?_cons_succ, List.set_cons_zero, List.set_cons_succ, List.length_cons, List.length_nil, Nat.reduceAdd, Nat.reduceLT, Nat.zero_lt_succ, Nat.reduceSub, if_true, ite_tt, ite_ff, Bool.false_eq_true, if_false, in_str, lt_int, le_int, gt_int, ge_int, eq_int, ne_int, eq_bl, ne_bl, len_lst, len_tup, add_int, sub_int, sub_lst, sub_tup, tru_bl, recvM, g, is_cell (cell Q), app_cell (v := D.tup false [.int (k : Int), .int ((k : Int) + 1), .int l]) (cell Q) hL, set_app]
        rw [hs]
        refine ⟨_, .inl rfl, _, _, (by first | exact True.intro | rfl | contradiction | assumption), ?_⟩
        simp [rowz]
  · rintro σ μ' ⟨a, c, rfl, rfl⟩
    have e : (enumL 0 ((levels b t).map D.int)).length = t.length := by rw [enum_len, List.length_map, hlen]
    rw [e, hR]
    have hRl : R.length ≤ 80 := by rw [← hR]; exact Nat.le_trans (rowsAt_len _ _) ht.len
    have hRv : ∀ x ∈ R.map (fun r : Row => r.2.2), (0 : Int) ≤ x ∧ x ≤ ((4 : Nat) : Int) := fun x hx => by
      obtain ⟨r, hr, rfl⟩ := List.mem_map.mp hx
      rw [← hR] at hr
      exact lev4 hb t _ (rowsAt_lv (by rw [hlen]; exact Nat.le_refl _) r hr)
    have sq : ∀ R : List Row, seqIt (μ ++ [.lst (rowz R)]) (.ref μ.length) = some (rowz R, [(μ.length, rowz R)]) := fun R => by
      have e : seqIt (μ ++ [.lst (rowz R)]) (.ref μ.length) = match (μ ++ [D.lst (rowz R)])[μ.length]? with
        | some (.lst xs) => some (xs, [(μ.length, xs)])
        | _ => none := rfl
      rw [e, cell R]
    have wk : wOk [(μ.length, rowz R)] (μ ++ [.lst (rowz R)]) = true := by
      unfold wOk
      simp only [List.all_cons, List.all_nil, cell R, sames_self, Bool.and_self]
    have dr : drys (μ ++ [D.lst (rowz R)]) = true := by
      rw [drys_app, hμ]
      simp only [drys, dry, drys_map (f := rowD) (fun _ => rfl) R, Bool.and_self]
    simp -implicitDefEqProofs only [rns_cons, rns_nil, sL_cons, sL_nil, eL_cons, eL_nil, rn, ev, evT, evs, evo, evq, evi, evC, bnd_ok, calm_ok, opt_some, nxt_nx, nxt_ret, nxt_brk, nxt_ct, ev_ok, fresh, bindT, bindTs, setSl, Option.map_some, Option.map_none, List.getElem?_cons_zero, List.getElem?_cons_succ, List.set_cons_zero, List.set_cons_succ, List.length_cons, List.length_nil, Nat.reduceAdd, Nat.reduceLT, Nat.zero_lt_succ, Nat.reduceSub, if_true, ite_tt, ite_ff, Bool.false_eq_true, if_false, in_str, lt_int, le_int, gt_int, ge_int, eq_int, ne_int, eq_bl, ne_bl, len_lst, len_tup, add_int, sub_int, sub_lst, sub_tup, tru_bl, recvM, sq]
    simp only [ev_bnd, ev_calm]
    refine ev_mapR (h := rowD) (fun r => .int r.2.2) wk (fun r _ => ?_) ?_
    · rw [turnM_1 (by simp)]
      have la : atD [D.int (r.1 : Int), D.int (r.2.1 : Int), D.int r.2.2] 2 = some (.int r.2.2) := rfl
      simp -implicitDefEqProofs only [rns_cons, rns_nil, sL_cons, sL_nil, eL_cons, eL_nil, rn, ev, evT, evs, evo, evq, evi, evC, bnd_ok, calm_ok, opt_some, nxt_nx, nxt_ret, nxt_brk, nxt_ct, ev_ok, fresh, bindT, bindTs, setSl, Option.map_some, Option.map_none, List.getElem?_cons_zero, List.getElem?_cons_succ, List.set_cons_zero, List.set_cons_succ, List.length_cons, List.length_nil, Nat.reduceAdd, Nat.reduceLT, Nat.zero_lt_succ, Nat.reduceSub, if_true, ite_tt, ite_ff, Bool.false_eq_true, if_false, in_str, lt_int, le_int, gt_int, ge_int, eq_int, ne_int, eq_bl, ne_bl, len_lst, len_tup, add_int, sub_int, sub_lst, sub_tup, tru_bl, recvM, la]
    rw [show (R.map fun r => D.int r.2.2) = (R.map fun r => r.2.2).map .int by rw [List.map_map]; rfl]
    simp -implicitDefEqProofs only [rns_cons, rns_nil, sL_cons, sL_nil, eL_cons, eL_nil, rn, ev, evT, evs, evo, evq, evi, evC, bnd_ok, calm_ok, opt_some, nxt_nx, nxt_ret, nxt_brk, nxt_ct, ev_ok, fresh, bindT, bindTs, setSl, Option.map_some, Option.map_none, List.getElem?_cons_zero, List.getElem?_cons_succ, List.set_cons_zero, List.set_cons_succ, List.length_cons, List.length_nil, Nat.reduceAdd, Nat.reduceLT, Nat.zero_lt_succ, Nat.reduceSub, if_true, ite_tt, ite_ff, Bool.false_eq_true, if_false, in_str, lt_int, le_int, gt_int, ge_int, eq_int, ne_int, eq_bl, ne_bl, len_lst, len_tup, add_int, sub_int, sub_lst, sub_tup, tru_bl, recvM, f_ord_lst (n + 2) (R.map fun r => r.2.2) _ dr (by rw [List.length_map]; exact hRl) hRv, seq_tup, genF]
    simp only [ev_bnd, ev_calm]
    refine ev_mapR (ws := []) (fun k => rowD (R.getD k (0, 0, 0))) wOk_nil (fun k hk => ?_) ?_
    · have hkl : k < R.length := by have := ord_mem.mp hk; rwa [List.length_map] at this
      have a1 : atD (rowz R) (k : Int) = some (rowD (R.getD k (0, 0, 0))) := atD_some (by
        rw [List.getElem?_map, List.getElem?_eq_getElem hkl]
        simp [List.getD, List.getElem?_eq_getElem hkl])
      rw [turnM_1 (by simp)]
      simp -implicitDefEqProofs only [rns_cons, rns_nil, sL_cons, sL_nil, eL_cons, eL_nil, rn, ev, evT, evs, evo, evq, evi, evC, bnd_ok, calm_ok, opt_some, nxt_nx, nxt_ret, nxt_brk, nxt_ct, ev_ok, fresh, bindT, bindTs, setSl, Option.map_some, Option.map_none, List.getElem?_cons_zero, List.getElem?_cons_succ, List.set_cons_zero, List.set_cons_succ, List.length_cons, List.length_nil, Nat.reduceAdd, Nat.reduceLT, Nat.zero_lt_succ, Nat.reduceSub, if_true, ite_tt, ite_ff, Bool.false_eq_true, if_false, in_str, lt_int, le_int, gt_int, ge_int, eq_int, ne_int, eq_bl, ne_bl, len_lst, len_tup, add_int, sub_int, sub_lst, sub_tup, tru_bl, recvM, sub_ref (cell R), a1]
    simp -implicitDefEqProofs only [rns_cons, rns_nil, sL_cons, sL_nil, eL_cons, eL_nil, rn, ev, evT, evs, evo, evq, evi, evC, bnd_ok, calm_ok, opt_some, nxt_nx, nxt_ret, nxt_brk, nxt_ct, ev_ok, fresh, bindT, bindTs, setSl, Option.map_some, Option.map_none, List.getElem?_cons_zero, List.getElem?_cons_succ, List.set_cons_zero, List.set_cons_succ, List.length_cons, List.length_nil, Nat.reduceAdd, Nat.reduceLT, Nat.zero_lt_succ, Nat.reduceSub, if_true, ite_tt, ite_ff, Bool.false_eq_true, if_false, in_str, lt_int, le_int, gt_int, ge_int, eq_int, ne_int, eq_bl, ne_bl, len_lst, len_tup, add_int, sub_int, sub_lst, sub_tup, tru_bl, recvM]
    exact ⟨_, .inl rfl, done_dry hμ (by simp only [dry]; exact drys_map (fun _ => rfl) _)⟩
end Mi
set_option Elab.async false
set_option linter.all false
set_option maxRecDepth 100000
set_option maxHeartbeats 4000000
/-! P25: marks, parts kept apart. -/
namespace Mi
abbrev Pr := Nat × Nat
abbrev pairD (r : Pr) : D := .tup false [.int (r.1 : Int), .int (r.2 : Int)]
abbrev pairz (F : List Pr) : List D := F.map pairD
def mstep (F : List Pr) (k : Nat) : List Pr := match F.getLast? with
  | some r => if r.2 = k then F.dropLast ++ [(r.1, k + 1)] else F ++ [(k, k + 1)]
  | none => [(k, k + 1)]
def isSpot (o : List Nat) (first last : Nat) (k : Nat) : Bool := decide (first ≤ o.getD k 0) && decide (o.getD k 0 < last)
def spots (o : List Nat) (first last m : Nat) : List Nat := (List.range m).filter (isSpot o first last)
def marks (o : List Nat) (first last m : Nat) : List Pr := (spots o first last m).foldl mstep []
theorem spots_succ {o : List Nat} {first last m : Nat} : spots o first last (m + 1) = spots o first last m ++ (if isSpot o first last m = true then [m] else []) := by
  unfold spots
  rw [List.range_succ, List.filter_append]
  congr 1
  cases q : isSpot o first last m <;> simp [q]
theorem marks_succ {o : List Nat} {first last m : Nat} : marks o first last (m + 1) = if isSpot o first last m = true then mstep (marks o first last m) m else marks o first last m := by
  unfold marks
  rw [spots_succ, List.foldl_append]
  cases q : isSpot o first last m <;> rfl
theorem mstep_len (F : List Pr) (k : Nat) : (mstep F k).length ≤ F.length + 1 := by
  unfold mstep
  split
  · split
    · rw [List.length_append, List.length_dropLast, List.length_singleton]; omega
    · rw [List.length_append, List.length_singleton]; omega
  · simp
theorem fold_len : ∀ (l : List Nat) (F : List Pr), (l.foldl mstep F).length ≤ F.length + l.length
  | [], F => by simp
  | k :: l, F => by
    have := fold_len l (mstep F k)
    have := mstep_len F k
    simp only [List.foldl_cons, List.length_cons]
    omega
theorem plains_pairz : ∀ (R : List Pr), plains 19 (pairz R) = true
  | [] => rfl
  | r :: R => by
    show (plain 19 (pairD r) && plains 19 (pairz R)) = true
    rw [plains_pairz R, Bool.and_true]
    rfl
theorem last_pair {F : List Pr} {r : Pr} (h : F.getLast? = some r) : atD (pairz F) (-1) = some (pairD r) := atD_neg1 (by rw [List.getLast?_map, h]; rfl)
theorem f_marked (n : Nat) (t : T) (first last : Nat) (μ : Mu) (hμ : drys μ = true) (ht : Tx t) (h1 : first ≤ last) (h2 : last ≤ t.length) :
    (K (n + 4)).fn 10 [.str t, .int (first : Int), .int (last : Int)] μ = .ok (.tup true (pairz (marks (sorder (levels (beginP t) t)) first last t.length))) μ := by
  rw [fn_at (d := dF_marked_within) rfl]
  show fun_ (K (n + 3)) 7 false b_marked_within [.str t, .int (first : Int), .int (last : Int)] μ = _
  refine fun_ret [some (.str t), some (.int (first : Int)), some (.int (last : Int)), none, none, none, none] rfl ?_
  unfold b_marked_within
  have hb := beginP_01 t
  have hl80 : (levels (beginP t) t).length ≤ 80 := by rw [levels_len]; exact ht.len
  simp -implicitDefEqProofs only [rns_cons, rns_nil, sL_cons, sL_nil, eL_cons, eL_nil, rn, ev, evT, evs, evo, evq, evi, evC, bnd_ok, calm_ok, opt_some, nxt_nx, nxt_ret, nxt_brk, nxt_ct, ev_ok, fresh, bindT, bindTs, setSl, Option.map_some, Option.map_none, List.getElem?_cons_zero, List.getElem?_cons_succ, List.set_cons_zero, List.set_cons_succ, List.length_cons, List.length_nil, Nat.reduceAdd, Nat.reduceLT, Nat.zero_lt_succ, Nat.reduceSub, if_true, ite_tt, ite_ff, Bool.false_eq_true, if_false, in_str, lt_int, le_int, gt_int, ge_int, eq_int, ne_int, eq_bl, ne_bl, len_lst, len_tup, add_int, sub_int, sub_lst, sub_tup, tru_bl, recvM, len_str ht.line, decide_eq_true (show (0 : Int) ≤ (first : Int) by omega), decide_eq_true (show (first : Int) ≤ (last : Int) by omega), decide_eq_true (show (last : Int) ≤ (t.length : Int) by omega), Bool.not_true, f_begin (n + 1) t μ hμ ht, p_levels n t (beginP t) μ hμ ht hb, f_ord_tup (n + 2) (levels (beginP t) t) true μ hμ hl80 (lev4 hb t), seq_tup]
  have hol : (sorder (levels (beginP t) t)).length = t.length := by rw [ord_len, levels_len]
  generalize sorder (levels (beginP t) t) = o at *
  rw [ev_bnd]
  have cell : ∀ F : List Pr, (μ ++ [D.lst (pairz F)])[μ.length]? = some (.lst (pairz F)) := fun F => at_app
  refine for_inv (fun k σ μ' => ∃ a c, σ = [some (.str t), some (.int (first : Int)), some (.int (last : Int)), some (.tup true (intz o)), some (.ref μ.length), a, c] ∧ μ' = μ ++ [.lst (pairz (marks o first last k))]) ⟨_, _, rfl, rfl⟩ (fun _ _ _ _ => rfl) ?_ ?_
  · rintro k x σ μ' hx ⟨a, c, rfl, rfl⟩
    obtain ⟨y, hy, rfl⟩ := enum_at hx
    rw [List.getElem?_map] at hy
    obtain ⟨p, hp, rfl⟩ := Option.map_eq_some_iff.mp hy
    have hk : k < o.length := (List.getElem?_eq_some_iff.mp hp).1
    have hpD : o.getD k 0 = p := by simp [List.getD, hp]
    rw [turn_2 (by simp) (by simp), Nat.zero_add, marks_succ]
    have hsp : isSpot o first last k = (decide (first ≤ p) && decide (p < last)) := by unfold isSpot; rw [hpD]
    have hML : (marks o first last k).length ≤ 80 := by
      have := fold_len (spots o first last k) []
      have h3 : (spots o first last k).length ≤ k := by
        unfold spots
        have := List.length_filter_le (isSpot o first last) (List.range k)
        rw [List.length_range] at this
        exact this
      unfold marks
      have := ht.len
      simp at *
      omega
    generalize marks o first last k = Q at *
    have hL : (pairz Q).length < LINE := by rw [List.length_map]; unfold LINE; omega
    have ne : ∀ μ : Mu, cmpM .ne (μ ++ [.lst (pairz Q)]) (.ref μ.length) (.lst []) = some (!(pairz Q).isEmpty) := fun μ => by
      have e : cmpM .ne (μ ++ [.lst (pairz Q)]) (.ref μ.length) (.lst []) = cmpM .ne (μ ++ [.lst (pairz Q)]) (.lst (pairz Q)) (.lst []) := by
        unfold cmpM
        simp only [view_cell (at_app (μ := μ) (d := D.lst (pairz Q)) (ν := []))]
        rfl
      rw [e, ne_nil (plains_pairz Q)]
    simp -implicitDefEqProofs only [rns_cons, rns_nil, sL_cons, sL_nil, eL_cons, eL_nil, rn, ev, evT, evs, evo, evq, evi, evC, bnd_ok, calm_ok, opt_some, nxt_nx, nxt_ret, nxt_brk, nxt_ct, ev_ok, fresh, bindT, bindTs, setSl, Option.map_some, Option.map_none, List.getElem?_cons_zero, List.getElem?_cons_succ, List.set_cons_zero, List.set_cons_succ, List.length_cons, List.length_nil, Nat.reduceAdd, Nat.reduceLT, Nat.zero_lt_succ, Nat.reduceSub, if_true, ite_tt, ite_ff, Bool.false_eq_true, if_false, in_str, lt_int, le_int, gt_int, ge_int, eq_int, ne_int, eq_bl, ne_bl, len_lst, len_tup, add_int, sub_int, sub_lst, sub_tup, tru_bl, recvM]
    by_cases c1 : first ≤ p
    · by_cases c2 : p < last
      · have hs : isSpot o first last k = true := by rw [hsp, decide_eq_true c1, decide_eq_true c2]; rfl
        rw [hs, if_pos rfl]
        simp -implicitDefEqProofs only [rns_cons, rns_nil, sL_cons, sL_nil, eL_cons, eL_nil, rn, ev, evT, evs, evo, evq, evi, evC, bnd_ok, calm_ok, opt_some, nxt_nx, nxt_ret, nxt_brk, nxt_ct, ev_ok, fresh, bindT, bindTs, setSl, Option.map_some, Option.map_none, List.getElem?_cons_zero, List.getElem?_cons_succ, List.set_cons_zero, List.set_cons_succ, List.length_cons, List.length_nil, Nat.reduceAdd, Nat.reduceLT, Nat.zero_lt_succ, Nat.reduceSub, if_true, ite_tt, ite_ff, Bool.false_eq_true, if_false, in_str, lt_int, le_int, gt_int, ge_int, eq_int, ne_int, eq_bl, ne_bl, len_lst, len_tup, add_int, sub_int, sub_lst, sub_tup, tru_bl, recvM, decide_eq_true (show (first : Int) ≤ (p : Int) by omega), decide_eq_true (show (p : Int) < (last : Int) by omega), ne]
        cases hq : Q.getLast? with
        | none =>
          have hQ : Q = [] := List.getLast?_eq_none_iff.mp hq
          subst hQ
          have e1 : (pairz []).isEmpty = true := rfl
          simp -implicitDefEqProofs only [rns_cons, rns_nil, sL_cons, sL_nil, eL_cons, eL_nil, rn, ev, evT, evs, evo, evq, evi, evC, bnd_ok, calm_ok, opt_some, nxt_nx, nxt_ret, nxt_brk, nxt_ct, ev_ok, fresh, bindT, bindTs, setSl, Option.map_some, Option.map_none, List.getElem?_cons_zero, List.getElem?_cons_succ, List.set_cons_zero, List.set_cons_succ, List.length_cons, List.length_nil, Nat.reduceAdd, Nat.reduceLT, Nat.zero_lt_succ, Nat.reduceSub, if_true, ite_tt, ite_ff, Bool.false_eq_true, if_false, in_str, lt_int, le_int, gt_int, ge_int, eq_int, ne_int, eq_bl, ne_bl, len_lst, len_tup, add_int, sub_int, sub_lst, sub_tup, tru_bl, recvM, e1, Bool.not_true, is_cell (cell []), app_cell (v := D.tup false [.int (k : Int), .int ((k : Int) + 1)]) (cell []) hL, set_app]
          exact ⟨_, .inl rfl, _, _, (by first | exact True.intro | rfl | contradiction | assumption), (by first | exact True.intro | rfl | contradiction | assumption)⟩
        | some r =>
          have hne : Q ≠ [] := fun z => by rw [z] at hq; cases hq
          have hne2 : pairz Q ≠ [] := by simpa using hne
          have e1 : (pairz Q).isEmpty = false := by cases Q with
            | nil => exact absurd rfl hne
            | cons _ _ => rfl
          have la : atD [D.int (r.1 : Int), D.int (r.2 : Int)] 1 = some (.int (r.2 : Int)) := rfl
          have l0 : atD [D.int (r.1 : Int), D.int (r.2 : Int)] 0 = some (.int (r.1 : Int)) := rfl
          simp -implicitDefEqProofs only [rns_cons, rns_nil, sL_cons, sL_nil, eL_cons, eL_nil, rn, ev, evT, evs, evo, evq, evi, evC, bnd_ok, calm_ok, opt_some, nxt_nx, nxt_ret, nxt_brk, nxt_ct, ev_ok, fresh, bindT, bindTs, setSl, Option.map_some, Option.map_none, List.getElem?_cons_zero, List.getElem?_cons_succ, List.set_cons_zero, List.set_cons_succ, List.length_cons, List.length_nil, Nat.reduceAdd, Nat.reduceLT, Nat.zero_lt_succ, Nat.reduceSub, if_true, ite_tt, ite_ff, Bool.false_eq_true, if_false, in_str, lt_int, le_int, gt_int, ge_int, eq_int, ne_int, eq_bl, ne_bl, len_lst, len_tup, add_int, sub_int, sub_lst, sub_tup, tru_bl, recvM, e1, Bool.not_false, sub_ref (cell Q), last_pair hq, la]
          by_cases h2 : r.2 = k
          · have g : (((r.2 : Nat) : Int) == (k : Int)) = true := beq_iff_eq.mpr (by omega)
            have hs : mstep Q k = Q.dropLast ++ [(r.1, k + 1)] := by unfold mstep; rw [hq]; simp only [h2, if_true]
            simp -implicitDefEqProofs only [rns_cons, rns_nil, sL_cons, sL_nil, eL_cons, eL_nil, rn, ev, evT, evs, evo, evq, evi, evC, bnd_ok, calm_ok, opt_some, nxt_nx, nxt_ret, nxt_brk, nxt_ct, ev_ok, fresh, bindT, bindTs, setSl, Option.map_some, Option.map_none, List.getElem?_cons_zero, List.getElem?_cons_succ, List.set_cons_zero, List.set_cons_succ, List.length_cons, List.length_nil, Nat.reduceAdd, Nat.reduceLT, Nat.zero_lt_succ, Nat.reduceSub, if_true, ite_tt, ite_ff, Bool.false_eq_true, if_false, in_str, lt_int, le_int, gt_int, ge_int, eq_int, ne_int, eq_bl, ne_bl, len_lst, len_tup, add_int, sub_int, sub_lst, sub_tup, tru_bl, recvM, g, sub_ref (cell Q), last_pair hq, l0, set_last (cell Q) hne2, set_app]
            rw [hs]
            refine ⟨_, .inl rfl, _, _, (by first | exact True.intro | rfl | contradiction | assumption), ?_⟩
            rw [← List.map_dropLast]
            simp [pairz]
          · have g : (((r.2 : Nat) : Int) == (k : Int)) = false := beq_eq_false_iff_ne.mpr (by omega)
            have hs : mstep Q k = Q ++ [(k, k + 1)] := by unfold mstep; rw [hq]; simp only [h2, if_false]
            simp -implicitDefEqProofs only [rns_cons, rns_nil, sL_cons, sL_nil, eL_cons, eL_nil, rn, ev, evT, evs, evo, evq, evi, evC, bnd_ok, calm_ok, opt_some, nxt_nx, nxt_ret, nxt_brk, nxt_ct, ev_ok, fresh, bindT, bindTs, setSl, Option.map_some, Option.map_none, List.getElem?_cons_zero, List.getElem?_cons_succ, List.set_cons_zero, List.set_cons_succ, List.length_cons, List.length_nil, Nat.reduceAdd, Nat.reduceLT, Nat.zero_lt_succ, Nat.reduceSub, if_true, ite_tt, ite_ff, Bool.false_eq_true, if_false, in_str, lt_int, le_int, gt_int, ge_int, eq_int, ne_int, eq_bl, ne_bl, len_lst, len_tup, add_int, sub_int, sub_lst, sub_tup, tru_bl, recvM, g, is_cell (cell Q), app_cell (v := D.tup false [.int (k : Int), .int ((k : Int) + 1)]) (cell Q) hL, set_app]
            rw [hs]
            refine ⟨_, .inl rfl, _, _, (by first | exact True.intro | rfl | contradiction | assumption), ?_⟩
            simp [pairz]
      · have hs : isSpot o first last k = false := by rw [hsp, decide_eq_true c1, decide_eq_false c2]; rfl
        rw [hs, ite_ff]
        simp -implicitDefEqProofs only [rns_cons, rns_nil, sL_cons, sL_nil, eL_cons, eL_nil, rn, ev, evT, evs, evo, evq, evi, evC, bnd_ok, calm_ok, opt_some, nxt_nx, nxt_ret, nxt_brk, nxt_ct, ev_ok, fresh, bindT, bindTs, setSl, Option.map_some, Option.map_none, List.getElem?_cons_zero, List.getElem?_cons_succ, List.set_cons_zero, List.set_cons_succ, List.length_cons, List.length_nil, Nat.reduceAdd, Nat.reduceLT, Nat.zero_lt_succ, Nat.reduceSub, if_true, ite_tt, ite_ff, Bool.false_eq_true, if_false, in_str, lt_int, le_int, gt_int, ge_int, eq_int, ne_int, eq_bl, ne_bl, len_lst, len_tup, add_int, sub_int, sub_lst, sub_tup, tru_bl, recvM, decide_eq_true (show (first : Int) ≤ (p : Int) by omega), decide_eq_false (show ¬ (p : Int) < (last : Int) by omega)]
        exact ⟨_, .inl rfl, _, _, (by first | exact True.intro | rfl | contradiction | assumption), (by first | exact True.intro | rfl | contradiction | assumption)⟩
    · have hs : isSpot o first last k = false := by rw [hsp, decide_eq_false c1]; rfl
      rw [hs, ite_ff]
      simp -implicitDefEqProofs only [rns_cons, rns_nil, sL_cons, sL_nil, eL_cons, eL_nil, rn, ev, evT, evs, evo, evq, evi, evC, bnd_ok, calm_ok, opt_some, nxt_nx, nxt_ret, nxt_brk, nxt_ct, ev_ok, fresh, bindT, bindTs, setSl, Option.map_some, Option.map_none, List.getElem?_cons_zero, List.getElem?_cons_succ, List.set_cons_zero, List.set_cons_succ, List.length_cons, List.length_nil, Nat.reduceAdd, Nat.reduceLT, Nat.zero_lt_succ, Nat.reduceSub, if_true, ite_tt, ite_ff, Bool.false_eq_true, if_false, in_str, lt_int, le_int, gt_int, ge_int, eq_int, ne_int, eq_bl, ne_bl, len_lst, len_tup, add_int, sub_int, sub_lst, sub_tup, tru_bl, recvM, decide_eq_false (show ¬ (first : Int) ≤ (p : Int) by omega)]
      exact ⟨_, .inl rfl, _, _, (by first | exact True.intro | rfl | contradiction | assumption), (by first | exact True.intro | rfl | contradiction | assumption)⟩
  · rintro σ μ' ⟨a, c, rfl, rfl⟩
    have e : (enumL 0 (intz o)).length = t.length := by rw [enum_len, List.length_map, hol]
    rw [e]
    simp -implicitDefEqProofs only [rns_cons, rns_nil, sL_cons, sL_nil, eL_cons, eL_nil, rn, ev, evT, evs, evo, evq, evi, evC, bnd_ok, calm_ok, opt_some, nxt_nx, nxt_ret, nxt_brk, nxt_ct, ev_ok, fresh, bindT, bindTs, setSl, Option.map_some, Option.map_none, List.getElem?_cons_zero, List.getElem?_cons_succ, List.set_cons_zero, List.set_cons_succ, List.length_cons, List.length_nil, Nat.reduceAdd, Nat.reduceLT, Nat.zero_lt_succ, Nat.reduceSub, if_true, ite_tt, ite_ff, Bool.false_eq_true, if_false, in_str, lt_int, le_int, gt_int, ge_int, eq_int, ne_int, eq_bl, ne_bl, len_lst, len_tup, add_int, sub_int, sub_lst, sub_tup, tru_bl, recvM, tup_cell (cell _)]
    exact ⟨_, .inl rfl, done_dry hμ (by simp only [dry]; exact drys_map (fun _ => rfl) _)⟩
/-! ### parts -/
def lineP (t : T) : T := seen t (levels (beginP t) t) (sorder (levels (beginP t) t))
theorem lineP_len (t : T) : (lineP t).length = t.length := by
  unfold lineP seen
  rw [List.length_map, ord_len, levels_len]
def apart (ts : List T) (b : Int) : T := joinT [32] (if b = 0 then ts.map lineP else (ts.map lineP).reverse)
theorem sumL_le {m : Nat} : ∀ {xs : List T}, (∀ x ∈ xs, x.length ≤ m) → sumL xs ≤ xs.length * m
  | [], _ => by simp [sumL]
  | x :: xs, h => by
    have := sumL_le (m := m) fun y hy => h y (List.mem_cons_of_mem _ hy)
    have := h x List.mem_cons_self
    unfold sumL
    rw [List.length_cons, Nat.succ_mul]
    omega
theorem join_sp {μ : Mu} {xs : List T} (h : ∀ x ∈ xs, x.length ≤ 80) (hl : xs.length ≤ 80) : mthM .join μ (.str [32]) [.lst (xs.map .str)] = some (.str (joinT [32] xs)) := by
  have e2 : mthM .join μ (.str [32]) [.lst (xs.map .str)] = match toStrs (xs.map .str) with
    | some xs => if sumL xs + xs.length * 1 ≤ LINE then some (.str (joinT [32] xs)) else none
    | none => none := rfl
  rw [e2, toStrs_map]
  have := sumL_le h
  show (if sumL xs + xs.length * 1 ≤ LINE then some (D.str (joinT [32] xs)) else none) = _
  rw [if_pos]
  have h3 : xs.length * 80 ≤ 80 * 80 := Nat.mul_le_mul_right 80 hl
  unfold LINE
  omega
theorem f_apart (n : Nat) (ts : List T) (b : Int) (μ : Mu) (hμ : drys μ = true) (ht : ∀ t ∈ ts, Tx t) (hl : ts.length ≤ 80) (hb : b = 0 ∨ b = 1) : (K (n + 5)).fn 12 [.lst (ts.map .str), .int b] μ = .ok (.str (apart ts b)) μ := by
  rw [fn_at (d := dF_kept_apart) rfl]
  show fun_ (K (n + 4)) 4 false b_kept_apart [.lst (ts.map .str), .int b] μ = _
  refine fun_ret [some (.lst (ts.map .str)), some (.int b), none, none] rfl ?_
  unfold b_kept_apart
  simp -implicitDefEqProofs only [rns_cons, rns_nil, sL_cons, sL_nil, eL_cons, eL_nil, rn, ev, evT, evs, evo, evq, evi, evC, bnd_ok, calm_ok, opt_some, nxt_nx, nxt_ret, nxt_brk, nxt_ct, ev_ok, fresh, bindT, bindTs, setSl, Option.map_some, Option.map_none, List.getElem?_cons_zero, List.getElem?_cons_succ, List.set_cons_zero, List.set_cons_succ, List.length_cons, List.length_nil, Nat.reduceAdd, Nat.reduceLT, Nat.zero_lt_succ, Nat.reduceSub, if_true, ite_tt, ite_ff, Bool.false_eq_true, if_false, in_str, lt_int, le_int, gt_int, ge_int, eq_int, ne_int, eq_bl, ne_bl, len_lst, len_tup, add_int, sub_int, sub_lst, sub_tup, tru_bl, recvM, nin_01 hb, seq_lst]
  simp only [ev_bnd, ev_calm]
  refine ev_mapR (fun t => .str (lineP t)) wOk_nil (fun t h => ?_) ?_
  · rw [turnM_1 (by simp)]
    simp -implicitDefEqProofs only [rns_cons, rns_nil, sL_cons, sL_nil, eL_cons, eL_nil, rn, ev, evT, evs, evo, evq, evi, evC, bnd_ok, calm_ok, opt_some, nxt_nx, nxt_ret, nxt_brk, nxt_ct, ev_ok, fresh, bindT, bindTs, setSl, Option.map_some, Option.map_none, List.getElem?_cons_zero, List.getElem?_cons_succ, List.set_cons_zero, List.set_cons_succ, List.length_cons, List.length_nil, Nat.reduceAdd, Nat.reduceLT, Nat.zero_lt_succ, Nat.reduceSub, if_true, ite_tt, ite_ff, Bool.false_eq_true, if_false, in_str, lt_int, le_int, gt_int, ge_int, eq_int, ne_int, eq_bl, ne_bl, len_lst, len_tup, add_int, sub_int, sub_lst, sub_tup, tru_bl, recvM, f_begin (n + 2) t μ hμ (ht t h), f_line n t (beginP t) μ hμ (ht t h) (beginP_01 t)]
    rfl
  rw [show (ts.map fun t => D.str (lineP t)) = (ts.map lineP).map .str by rw [List.map_map]; rfl]
  have hx : ∀ x ∈ ts.map lineP, x.length ≤ 80 := fun x hx => by
    obtain ⟨t, h, rfl⟩ := List.mem_map.mp hx
    rw [lineP_len]
    exact (ht t h).len
  have rvv : ∀ μ, revM μ (.lst ((ts.map lineP).map D.str)) = some (.lst ((ts.map lineP).reverse.map .str)) := fun μ => by
    show some (D.lst ((ts.map lineP).map D.str).reverse) = _
    rw [List.map_reverse]
  have j1 : ∀ μ : Mu, mthM .join μ (.str [32]) [.lst ((ts.map lineP).map .str)] = some (.str (joinT [32] (ts.map lineP))) := fun μ => join_sp hx (by rw [List.length_map]; exact hl)
  have j2 : ∀ μ : Mu, mthM .join μ (.str [32]) [.lst ((ts.map lineP).reverse.map .str)] = some (.str (joinT [32] (ts.map lineP).reverse)) := fun μ => join_sp (fun x hx2 => hx x (List.mem_reverse.mp hx2)) (by rw [List.length_reverse, List.length_map]; exact hl)
  unfold apart
  rcases hb with rfl | rfl
  · simp -implicitDefEqProofs only [rns_cons, rns_nil, sL_cons, sL_nil, eL_cons, eL_nil, rn, ev, evT, evs, evo, evq, evi, evC, bnd_ok, calm_ok, opt_some, nxt_nx, nxt_ret, nxt_brk, nxt_ct, ev_ok, fresh, bindT, bindTs, setSl, Option.map_some, Option.map_none, List.getElem?_cons_zero, List.getElem?_cons_succ, List.set_cons_zero, List.set_cons_succ, List.length_cons, List.length_nil, Nat.reduceAdd, Nat.reduceLT, Nat.zero_lt_succ, Nat.reduceSub, if_true, ite_tt, ite_ff, Bool.false_eq_true, if_false, in_str, lt_int, le_int, gt_int, ge_int, eq_int, ne_int, eq_bl, ne_bl, len_lst, len_tup, add_int, sub_int, sub_lst, sub_tup, tru_bl, recvM, beq_self_eq_true, j1]
    exact ⟨_, .inl rfl, done_dry0 hμ rfl⟩
  · simp -implicitDefEqProofs only [rns_cons, rns_nil, sL_cons, sL_nil, eL_cons, eL_nil, rn, ev, evT, evs, evo, evq, evi, evC, bnd_ok, calm_ok, opt_some, nxt_nx, nxt_ret, nxt_brk, nxt_ct, ev_ok, fresh, bindT, bindTs, setSl, Option.map_some, Option.map_none, List.getElem?_cons_zero, List.getElem?_cons_succ, List.set_cons_zero, List.set_cons_succ, List.length_cons, List.length_nil, Nat.reduceAdd, Nat.reduceLT, Nat.zero_lt_succ, Nat.reduceSub, if_true, ite_tt, ite_ff, Bool.false_eq_true, if_false, in_str, lt_int, le_int, gt_int, ge_int, eq_int, ne_int, eq_bl, ne_bl, len_lst, len_tup, add_int, sub_int, sub_lst, sub_tup, tru_bl, recvM, show ((1 : Int) == 0) = false from rfl, rvv, j2]
    exact ⟨_, .inl rfl, done_dry0 hμ rfl⟩
end Mi
set_option Elab.async false
set_option linter.all false
set_option maxRecDepth 100000
set_option maxHeartbeats 4000000
/-! P26: lines. -/
namespace Mi
def isB (t : T) (j : Nat) : Bool := t.getD j 0 == 32
/-- the last blank behind k, up to e -/
def lastB (t : T) (k e : Nat) : Option Nat := ((List.range' (k + 1) (e - k)).filter (isB t)).getLast?
def cutP (t : T) (wide k : Nat) : Nat := if min t.length (k + wide) < t.length then (lastB t k (min t.length (k + wide))).getD (min t.length (k + wide)) else min t.length (k + wide)
def nextP (t : T) (c : Nat) : Nat := if (t.drop c).take 1 = [32] then c + 1 else c
def segP (t : T) (k c : Nat) : T := seen ((t.drop k).take (c - k)) (((levels (beginP t) t).drop k).take (c - k)) (lorder (((levels (beginP t) t).drop k).take (c - k)))
def Lf (t : T) (wide : Nat) : Nat → Nat → List T
  | 0, _ => []
  | f + 1, k => if k < t.length then segP t k (cutP t wide k) :: Lf t wide f (nextP t (cutP t wide k)) else []
theorem lastB_some {t : T} {k e p : Nat} (h : lastB t k e = some p) : k < p ∧ p ≤ e := by
  unfold lastB at h
  have hm := List.mem_of_getLast? h
  have hr := (List.mem_filter.mp hm).1
  rw [List.mem_range'] at hr
  obtain ⟨i, hi, rfl⟩ := hr
  omega
theorem cutP_ok {t : T} {wide k : Nat} (hw : 1 ≤ wide) (hk : k < t.length) : k < cutP t wide k ∧ cutP t wide k ≤ t.length := by
  unfold cutP
  split
  · cases q : lastB t k (min t.length (k + wide)) with
    | none => simp only [Option.getD_none]; omega
    | some p =>
      have := lastB_some q
      simp only [Option.getD_some]
      omega
  · omega
theorem nextP_ok {t : T} {c : Nat} (hc : c ≤ t.length) : c ≤ nextP t c ∧ nextP t c ≤ t.length := by
  unfold nextP
  split
  · rename_i h
    have hl := congrArg List.length h
    rw [List.length_take, List.length_drop] at hl
    simp at hl
    omega
  · omega
theorem Lf_end {t : T} {wide k : Nat} (h : t.length ≤ k) : ∀ f, Lf t wide f k = []
  | 0 => rfl
  | f + 1 => by unfold Lf; rw [if_neg (by omega)]
theorem Lf_fuel {t : T} {wide : Nat} (hw : 1 ≤ wide) : ∀ (f k : Nat), t.length - k ≤ f → Lf t wide f k = Lf t wide (t.length - k) k := by
  intro f
  induction f using Nat.strongRecOn with
  | ind f ih =>
    intro k hf
    by_cases hk : k < t.length
    · obtain ⟨f', rfl⟩ : ∃ f', f = f' + 1 := ⟨f - 1, by omega⟩
      obtain ⟨m, hm⟩ : ∃ m, t.length - k = m + 1 := ⟨t.length - k - 1, by omega⟩
      have hc := cutP_ok hw hk
      have hn := nextP_ok hc.2
      rw [hm]
      unfold Lf
      rw [if_pos hk, if_pos hk, ih f' (by omega) _ (by omega), ih m (by omega) _ (by omega)]
    · rw [Lf_end (by omega), Lf_end (by omega)]
theorem Lf_step {t : T} {wide k : Nat} (hw : 1 ≤ wide) (hk : k < t.length) : Lf t wide (t.length - k) k = segP t k (cutP t wide k) :: Lf t wide (t.length - nextP t (cutP t wide k)) (nextP t (cutP t wide k)) := by
  obtain ⟨m, hm⟩ : ∃ m, t.length - k = m + 1 := ⟨t.length - k - 1, by omega⟩
  have hc := cutP_ok hw hk
  have hn := nextP_ok hc.2
  rw [hm]
  show (if k < t.length then segP t k (cutP t wide k) :: Lf t wide m (nextP t (cutP t wide k)) else []) = _
  rw [if_pos hk, Lf_fuel hw m _ (by omega)]
theorem foldl_last {α : Type} (c : α → Bool) : ∀ (l : List α) (a : Option α), l.foldl (fun last p => if c p = true then some p else last) a = ((l.filter c).getLast?).or a
  | [], a => rfl
  | x :: l, a => by
    rw [List.foldl_cons, foldl_last c l]
    cases q : c x with
    | true =>
      rw [List.filter_cons_of_pos q, if_pos rfl]
      cases h : (l.filter c).getLast? with
      | none =>
        have : l.filter c = [] := List.getLast?_eq_none_iff.mp h
        rw [this]; rfl
      | some y =>
        rw [List.getLast?_cons, h]
        rfl
    | false => rw [List.filter_cons_of_neg (by simp [q]), ite_ff]
/-- rfind of a blank, from k to e -/
theorem rfind_blank {t : T} {k e : Nat} (hk : k ≤ e) (he : e < t.length) : (∀ p, lastB t k e = some p → rfindC 32 k (min (e + 1) t.length) t = (p : Int)) ∧ (lastB t k e = none → rfindC 32 k (min (e + 1) t.length) t ≤ (k : Int)) := by
  have hmin : min (e + 1) t.length = e + 1 := by omega
  rw [hmin]
  have e1 : rfindC 32 k (e + 1) t = match (List.range' k (e + 1 + 1 - k)).foldl (fun last p => if (decide (p + 1 ≤ e + 1) && t[p]? == some 32) = true then some p else last) none with
    | some p => (p : Int)
    | none => -1 := rfl
  rw [e1, foldl_last, Option.or_none]
  have e2 : e + 1 + 1 - k = (e - k) + 1 + 1 := by omega
  have e3 : List.range' k (e + 1 + 1 - k) = (k :: List.range' (k + 1) (e - k)) ++ [e + 1] := by
    rw [e2, List.range'_concat, List.range'_succ]
    simp
    omega
  have e4 : (List.range' k (e + 1 + 1 - k)).filter (fun p => decide (p + 1 ≤ e + 1) && t[p]? == some 32) = (if isB t k = true then [k] else []) ++ (List.range' (k + 1) (e - k)).filter (isB t) := by
    rw [e3, List.filter_append]
    have f1 : [e + 1].filter (fun p => decide (p + 1 ≤ e + 1) && t[p]? == some 32) = [] := by
      simp
      intro h
      omega
    have f2 : ∀ p, p ≤ e → (decide (p + 1 ≤ e + 1) && t[p]? == some 32) = isB t p := fun p hp => by
      have : decide (p + 1 ≤ e + 1) = true := decide_eq_true (by omega)
      rw [this, Bool.true_and]
      unfold isB
      rw [List.getElem?_eq_getElem (show p < t.length by omega), getD_at (by omega)]
      rfl
    rw [f1, List.append_nil, List.filter_cons, f2 k hk]
    have f3 : (List.range' (k + 1) (e - k)).filter (fun p => decide (p + 1 ≤ e + 1) && t[p]? == some 32) = (List.range' (k + 1) (e - k)).filter (isB t) := by
      apply List.filter_congr
      intro p hp
      rw [List.mem_range'] at hp
      obtain ⟨i, hi, rfl⟩ := hp
      exact f2 _ (by omega)
    rw [f3]
    cases isB t k <;> rfl
  rw [e4]
  refine ⟨fun p hp => ?_, fun hn => ?_⟩
  · have : ((if isB t k = true then [k] else []) ++ (List.range' (k + 1) (e - k)).filter (isB t)).getLast? = some p := by
      rw [List.getLast?_append]
      unfold lastB at hp
      rw [hp]
      rfl
    rw [this]
  · have hn : (List.range' (k + 1) (e - k)).filter (isB t) = [] := List.getLast?_eq_none_iff.mp hn
    rw [hn, List.append_nil]
    cases isB t k
    · show (-1 : Int) ≤ _
      omega
    · show (k : Int) ≤ _
      omega
theorem sl_ok {t : T} (ht : Tx t) (c m : Nat) : cOk ((t.drop c).take m) := by
  unfold cOk
  rw [List.all_eq_true]
  intro x hx
  exact decide_eq_true (al_lt x (ht.al x (List.mem_of_mem_drop (List.mem_of_mem_take hx))))
theorem slice_len {α : Type} {l : List α} {k c : Nat} (h : k ≤ c) (hc : c ≤ l.length) : ((l.drop k).take (c - k)).length = c - k := by
  rw [List.length_take, List.length_drop]
  omega
theorem slice_getD {l : List Int} {k c i : Nat} (hi : i < c - k) : ((l.drop k).take (c - k)).getD i 0 = l.getD (k + i) 0 := by
  simp only [List.getD, List.getElem?_take_of_lt hi, List.getElem?_drop]
theorem slice_getT {l : T} {k c i : Nat} (hi : i < c - k) : List.getD ((l.drop k).take (c - k)) i 0 = List.getD l (k + i) 0 := by
  simp only [List.getD, List.getElem?_take_of_lt hi, List.getElem?_drop]
theorem turnM_2 {i j : Nat} {σ : Sl} {fq : Sl → Mu → R Bool} {fe : Sl → Mu → R D} {x y : D} {k : Bool} {μ : Mu} (h : i < σ.length) (h2 : j < σ.length) : turnM (.tup [.one i, .one j]) σ fq fe (.tup k [x, y]) μ = (fq ((((σ.set j none).set i none).set i (some x)).set j (some y)) μ).bnd fun b μ => if b = true then (fe ((((σ.set j none).set i none).set i (some x)).set j (some y)) μ).bnd fun y μ => .ok (some y) μ else .ok none μ := by
  unfold turnM
  have e : wipeM σ (tgS (.tup [.one i, .one j])) = (σ.set j none).set i none := rfl
  rw [e]
  unfold bindT
  simp only [seqOf, view, bindTs, bindT, List.length_set, h, h2, if_true]
theorem zip_map {f : Nat → D} : ∀ o : List Nat, zipL (o.map f) (intz o) = o.map fun k => .tup false [f k, .int (k : Int)]
  | [] => rfl
  | k :: o => by
    show D.tup false [f k, .int (k : Int)] :: zipL (o.map f) (intz o) = _
    rw [zip_map o]
    rfl
theorem slices_le {b : Int} (hb : b = 0 ∨ b = 1) (t : T) (k m : Nat) : ∀ x ∈ ((levels b t).drop k).take m, 0 ≤ x ∧ x ≤ 2 := fun x hx => levels_le hb t x (List.mem_of_mem_drop (List.mem_of_mem_take hx))
theorem min_nat {μ : Mu} {a b : Nat} : bltM .min μ [.int (a : Int), .int (b : Int)] = some (.int ((min a b : Nat) : Int)) := by
  show some (D.int (if (b : Int) < (a : Int) then (b : Int) else (a : Int))) = _
  congr 2
  split <;> omega
theorem f_lines (n : Nat) (t : T) (wide : Nat) (μ : Mu) (hμ : drys μ = true) (ht : Tx t) (hw : 1 ≤ wide) (hw2 : wide ≤ 80) : (K (n + 4)).fn 13 [.str t, .int (wide : Int)] μ = .ok (.tup true ((Lf t wide t.length 0).map .str)) μ := by
  rw [fn_at (d := dF_lines_seen) rfl]
  show fun_ (K (n + 3)) 13 false b_lines_seen [.str t, .int (wide : Int)] μ = _
  refine fun_ret [some (.str t), some (.int (wide : Int)), none, none, none, none, none, none, none, none, none, none, none] rfl ?_
  unfold b_lines_seen
  have hb := beginP_01 t
  have hlen := levels_len (beginP t) t
  have sqt : ∀ (μ2 : Mu) (k : Bool) (xs : List D), seqOf μ2 (.tup k xs) = some xs := fun _ _ _ => rfl
  simp -implicitDefEqProofs only [rns_cons, rns_nil, sL_cons, sL_nil, eL_cons, eL_nil, rn, ev, evT, evs, evo, evq, evi, evC, bnd_ok, calm_ok, opt_some, nxt_nx, nxt_ret, nxt_brk, nxt_ct, ev_ok, fresh, bindT, bindTs, setSl, Option.map_some, Option.map_none, List.getElem?_cons_zero, List.getElem?_cons_succ, List.set_cons_zero, List.set_cons_succ, List.length_cons, List.length_nil, Nat.reduceAdd, Nat.reduceLT, Nat.zero_lt_succ, Nat.reduceSub, if_true, ite_tt, ite_ff, Bool.false_eq_true, if_false, in_str, lt_int, le_int, gt_int, ge_int, eq_int, ne_int, eq_bl, ne_bl, len_lst, len_tup, add_int, sub_int, sub_lst, sub_tup, tru_bl, recvM, decide_eq_false (show ¬ (wide : Int) < 1 by omega), f_begin (n + 1) t μ hμ ht, p_levels n t (beginP t) μ hμ ht hb, sqt]
  rw [ev_bnd]
  have cell : ∀ F : List T, (μ ++ [D.lst (F.map .str)])[μ.length]? = some (.lst (F.map .str)) := fun F => at_app
  have dr : ∀ F : List T, drys (μ ++ [D.lst (F.map .str)]) = true := fun F => by
    rw [drys_app, hμ]
    simp only [drys, dry, drys_map (f := D.str) (fun _ => rfl) F, Bool.and_self]
  have hlvn : ((levels (beginP t) t).map D.int).length = t.length := by rw [List.length_map, hlen]
  refine whl_inv (fun k σ μ' => ∃ (p : Nat) (F : List T) (x5 x6 x7 x8 x9 x10 : Option D), σ = [some (.str t), some (.int (wide : Int)), some (.tup true ((levels (beginP t) t).map .int)), some (.ref μ.length), some (.int (p : Int)), x5, x6, x7, x8, x9, x10, none, none] ∧ μ' = μ ++ [.lst (F.map .str)] ∧ p ≤ t.length ∧ F ++ Lf t wide (t.length - p) p = Lf t wide t.length 0 ∧ F.length ≤ p ∧ k = t.length - p) ?_ FUEL t.length _ _ (by unfold FUEL; have := ht.len; omega) ⟨0, [], _, _, _, _, _, _, rfl, rfl, Nat.zero_le _, by simp, Nat.le_refl _, by simp⟩
  rintro k σ μ' ⟨p, F, x5, x6, x7, x8, x9, x10, rfl, rfl, hp, hinv, hF, rfl⟩
  simp -implicitDefEqProofs only [rns_cons, rns_nil, sL_cons, sL_nil, eL_cons, eL_nil, rn, ev, evT, evs, evo, evq, evi, evC, bnd_ok, calm_ok, opt_some, nxt_nx, nxt_ret, nxt_brk, nxt_ct, ev_ok, fresh, bindT, bindTs, setSl, Option.map_some, Option.map_none, List.getElem?_cons_zero, List.getElem?_cons_succ, List.set_cons_zero, List.set_cons_succ, List.length_cons, List.length_nil, Nat.reduceAdd, Nat.reduceLT, Nat.zero_lt_succ, Nat.reduceSub, if_true, ite_tt, ite_ff, Bool.false_eq_true, if_false, in_str, lt_int, le_int, gt_int, ge_int, eq_int, ne_int, eq_bl, ne_bl, len_lst, len_tup, add_int, sub_int, sub_lst, sub_tup, tru_bl, recvM, len_str ht.line]
  refine ⟨fun hc => ?_, fun hc => ?_⟩
  · have hpn : p < t.length := by have := of_decide_eq_true hc; omega
    rw [Lf_step hw hpn] at hinv
    have hcut := cutP_ok hw hpn
    have hnext := nextP_ok hcut.2
    have hmin : min t.length (p + wide) = min t.length (p + wide) := rfl
    generalize he : min t.length (p + wide) = e at hmin
    have hadd : (p : Int) + (wide : Int) = ((p + wide : Nat) : Int) := by omega
    have hmn : ∀ μ2 : Mu, bltM .min μ2 [.int (t.length : Int), .int ((p + wide : Nat) : Int)] = some (.int (e : Int)) := fun μ2 => by rw [min_nat, he]
    have hrf : ∀ μ2 : Mu, mthM .rfind μ2 (.str t) [.str [32], .int (p : Int), .int ((e : Int) + 1)] = some (.int (rfindC 32 p (min (e + 1) t.length) t)) := fun μ2 => by
      have e1 : mthM .rfind μ2 (.str t) [.str [32], .int (p : Int), .int ((e : Int) + 1)] = if decide ((0 : Int) ≤ (p : Int)) && decide ((p : Int) ≤ (e : Int) + 1) then some (.int (rfindC 32 (p : Int).toNat (min ((e : Int) + 1).toNat t.length) t)) else none := rfl
      have e2 : ((e : Int) + 1).toNat = e + 1 := by omega
      rw [e1, decide_eq_true (show (0 : Int) ≤ (p : Int) by omega), decide_eq_true (show (p : Int) ≤ (e : Int) + 1 by omega), e2]
      rfl
    generalize hsp : rfindC 32 p (min (e + 1) t.length) t = spot at hrf
    have hcv : ∀ μ2 : Mu, (if decide ((e : Int) < (t.length : Int)) = true then R.ok (decide ((p : Int) < spot)) μ2 else R.ok false μ2).bnd (fun tt μ => if tt = true then R.ok (D.int spot) μ else R.ok (D.int (e : Int)) μ) = .ok (.int (cutP t wide p : Int)) μ2 := fun μ2 => by
      unfold cutP
      rw [he]
      by_cases h1 : e < t.length
      · rw [decide_eq_true (show (e : Int) < (t.length : Int) by omega), if_pos rfl, bnd_ok, if_pos h1]
        have rb := rfind_blank (t := t) (k := p) (e := e) (by omega) h1
        rw [hsp] at rb
        cases q : lastB t p e with
        | none =>
          have := rb.2 q
          rw [decide_eq_false (by omega), ite_ff, Option.getD_none]
        | some y =>
          have h3 := rb.1 y q
          have h4 := lastB_some q
          rw [decide_eq_true (by omega), if_pos rfl, Option.getD_some, h3]
      · rw [decide_eq_false (show ¬ (e : Int) < (t.length : Int) by omega), ite_ff, bnd_ok, ite_ff, if_neg h1]
    generalize hcc : cutP t wide p = c at *
    have hslc : ∀ μ2 : Mu, slcM μ2 (.tup true ((levels (beginP t) t).map D.int)) (some (p : Int)) (some (c : Int)) = some (.tup false ((((levels (beginP t) t).drop p).take (c - p)).map .int)) := fun μ2 => by
      show some (D.tup false (cutL ((levels (beginP t) t).map D.int) (some (p : Int)) (some (c : Int)))) = _
      unfold cutL
      rw [clip_nat, clip_nat, hlvn, Nat.min_eq_left hp, Nat.min_eq_left hcut.2]
      simp
    have hLl : (((levels (beginP t) t).drop p).take (c - p)).length = c - p := slice_len (by omega) (by rw [hlen]; exact hcut.2)
    have hL2 := slices_le hb t p (c - p)
    have hgd : ∀ i, i < c - p → (((levels (beginP t) t).drop p).take (c - p)).getD i 0 = (levels (beginP t) t).getD (p + i) 0 := fun i hi => slice_getD hi
    have hL4 : ∀ x ∈ ((levels (beginP t) t).drop p).take (c - p), 0 ≤ x ∧ x ≤ (4 : Nat) := fun x hx => ⟨(hL2 x hx).1, by have := (hL2 x hx).2; omega⟩
    have hord := sorder_eq hL2
    have hseg : segP t p c = seen ((t.drop p).take (c - p)) (((levels (beginP t) t).drop p).take (c - p)) (sorder (((levels (beginP t) t).drop p).take (c - p))) := by unfold segP; rw [hord]
    generalize ((levels (beginP t) t).drop p).take (c - p) = lv at *
    have hom : ∀ i ∈ sorder lv, i < c - p := fun i hi => by rw [← hLl]; exact ord_mem.mp hi
    have hol : (sorder lv).length = c - p := by rw [ord_len, hLl]
    have hfo := f_ord_tup (n + 2) lv false (μ ++ [D.lst (F.map .str)]) (dr F) (by rw [hLl]; have := ht.len; omega) hL4
    generalize sorder lv = o at *
    simp -implicitDefEqProofs only [rns_cons, rns_nil, sL_cons, sL_nil, eL_cons, eL_nil, rn, ev, evT, evs, evo, evq, evi, evC, bnd_ok, calm_ok, opt_some, nxt_nx, nxt_ret, nxt_brk, nxt_ct, ev_ok, fresh, bindT, bindTs, setSl, Option.map_some, Option.map_none, List.getElem?_cons_zero, List.getElem?_cons_succ, List.set_cons_zero, List.set_cons_succ, List.length_cons, List.length_nil, Nat.reduceAdd, Nat.reduceLT, Nat.zero_lt_succ, Nat.reduceSub, if_true, ite_tt, ite_ff, Bool.false_eq_true, if_false, in_str, lt_int, le_int, gt_int, ge_int, eq_int, ne_int, eq_bl, ne_bl, len_lst, len_tup, add_int, sub_int, sub_lst, sub_tup, tru_bl, recvM, hadd, hmn, hrf, len_str ht.line, hcv, evo, hslc, hfo, seq_tup]
    simp only [ev_bnd, ev_calm]
    have hadd2 : ∀ k : Nat, (p : Int) + (k : Int) = ((p + k : Nat) : Int) := fun k => by omega
    refine ev_mapR (fun k => .str [List.getD t (p + k) 0]) wOk_nil (fun k hk => ?_) ?_
    · have hkc := hom k hk
      have a1 : ∀ μ2 : Mu, subM μ2 (.str t) (.int ((p + k : Nat) : Int)) = some (.str [List.getD t (p + k) 0]) := fun μ2 => sub_str ht.line (atD_some (by rw [List.getElem?_eq_getElem (show p + k < t.length by omega), getD_at (by omega)]))
      rw [turnM_1 (by simp)]
      simp -implicitDefEqProofs only [rns_cons, rns_nil, sL_cons, sL_nil, eL_cons, eL_nil, rn, ev, evT, evs, evo, evq, evi, evC, bnd_ok, calm_ok, opt_some, nxt_nx, nxt_ret, nxt_brk, nxt_ct, ev_ok, fresh, bindT, bindTs, setSl, Option.map_some, Option.map_none, List.getElem?_cons_zero, List.getElem?_cons_succ, List.set_cons_zero, List.set_cons_succ, List.length_cons, List.length_nil, Nat.reduceAdd, Nat.reduceLT, Nat.zero_lt_succ, Nat.reduceSub, if_true, ite_tt, ite_ff, Bool.false_eq_true, if_false, in_str, lt_int, le_int, gt_int, ge_int, eq_int, ne_int, eq_bl, ne_bl, len_lst, len_tup, add_int, sub_int, sub_lst, sub_tup, tru_bl, recvM, hadd2, a1]
    have hzip : ∀ μ2 : Mu, zipIt μ2 (.lst (o.map fun k => D.str [List.getD t (p + k) 0])) (.tup true (intz o)) = some (o.map (fun k => .tup false [.str [List.getD t (p + k) 0], .int (k : Int)]), []) := fun μ2 => by
      show some (zipL (o.map fun k => D.str [List.getD t (p + k) 0]) (intz o), ([] ++ [] : Wt)) = _
      rw [zip_map]
      rfl
    simp -implicitDefEqProofs only [rns_cons, rns_nil, sL_cons, sL_nil, eL_cons, eL_nil, rn, ev, evT, evs, evo, evq, evi, evC, bnd_ok, calm_ok, opt_some, nxt_nx, nxt_ret, nxt_brk, nxt_ct, ev_ok, fresh, bindT, bindTs, setSl, Option.map_some, Option.map_none, List.getElem?_cons_zero, List.getElem?_cons_succ, List.set_cons_zero, List.set_cons_succ, List.length_cons, List.length_nil, Nat.reduceAdd, Nat.reduceLT, Nat.zero_lt_succ, Nat.reduceSub, if_true, ite_tt, ite_ff, Bool.false_eq_true, if_false, in_str, lt_int, le_int, gt_int, ge_int, eq_int, ne_int, eq_bl, ne_bl, len_lst, len_tup, add_int, sub_int, sub_lst, sub_tup, tru_bl, recvM, hzip]
    simp only [ev_bnd, ev_calm]
    refine ev_mapR (fun k => .str [if lv.getD k 0 = 1 then turnC (List.getD ((t.drop p).take (c - p)) k 0) else List.getD ((t.drop p).take (c - p)) k 0]) wOk_nil (fun k hk => ?_) ?_
    · have hkc := hom k hk
      have hkl : p + k < (levels (beginP t) t).length := by rw [hlen]; omega
      have hlk : k < lv.length := by rw [hLl]; exact hkc
      have hx := hL2 (lv.getD k 0) (by
        have e : lv.getD k 0 = lv[k] := by simp [List.getD, List.getElem?_eq_getElem hlk]
        rw [e]
        exact List.getElem_mem hlk)
      have a2 := lv_at hkl
      rw [turnM_2 (by simp) (by simp)]
      simp -implicitDefEqProofs only [rns_cons, rns_nil, sL_cons, sL_nil, eL_cons, eL_nil, rn, ev, evT, evs, evo, evq, evi, evC, bnd_ok, calm_ok, opt_some, nxt_nx, nxt_ret, nxt_brk, nxt_ct, ev_ok, fresh, bindT, bindTs, setSl, Option.map_some, Option.map_none, List.getElem?_cons_zero, List.getElem?_cons_succ, List.set_cons_zero, List.set_cons_succ, List.length_cons, List.length_nil, Nat.reduceAdd, Nat.reduceLT, Nat.zero_lt_succ, Nat.reduceSub, if_true, ite_tt, ite_ff, Bool.false_eq_true, if_false, in_str, lt_int, le_int, gt_int, ge_int, eq_int, ne_int, eq_bl, ne_bl, len_lst, len_tup, add_int, sub_int, sub_lst, sub_tup, tru_bl, recvM, hadd2, a2, mod_int (show (0 : Int) < 2 by decide)]
      rw [← hgd k hkc, slice_getT hkc]
      by_cases z : lv.getD k 0 = 1
      · have z1 : (lv.getD k 0 % 2 == 1) = true := by rw [z]; rfl
        simp -implicitDefEqProofs only [rns_cons, rns_nil, sL_cons, sL_nil, eL_cons, eL_nil, rn, ev, evT, evs, evo, evq, evi, evC, bnd_ok, calm_ok, opt_some, nxt_nx, nxt_ret, nxt_brk, nxt_ct, ev_ok, fresh, bindT, bindTs, setSl, Option.map_some, Option.map_none, List.getElem?_cons_zero, List.getElem?_cons_succ, List.set_cons_zero, List.set_cons_succ, List.length_cons, List.length_nil, Nat.reduceAdd, Nat.reduceLT, Nat.zero_lt_succ, Nat.reduceSub, if_true, ite_tt, ite_ff, Bool.false_eq_true, if_false, in_str, lt_int, le_int, gt_int, ge_int, eq_int, ne_int, eq_bl, ne_bl, len_lst, len_tup, add_int, sub_int, sub_lst, sub_tup, tru_bl, recvM, z1, g_3, dicOf, Option.isSome, get_turn]
        rw [if_pos z]
      · have z1 : (lv.getD k 0 % 2 == 1) = false := by
          have : lv.getD k 0 = 0 ∨ lv.getD k 0 = 2 := by omega
          rcases this with y | y <;> rw [y] <;> rfl
        simp -implicitDefEqProofs only [rns_cons, rns_nil, sL_cons, sL_nil, eL_cons, eL_nil, rn, ev, evT, evs, evo, evq, evi, evC, bnd_ok, calm_ok, opt_some, nxt_nx, nxt_ret, nxt_brk, nxt_ct, ev_ok, fresh, bindT, bindTs, setSl, Option.map_some, Option.map_none, List.getElem?_cons_zero, List.getElem?_cons_succ, List.set_cons_zero, List.set_cons_succ, List.length_cons, List.length_nil, Nat.reduceAdd, Nat.reduceLT, Nat.zero_lt_succ, Nat.reduceSub, if_true, ite_tt, ite_ff, Bool.false_eq_true, if_false, in_str, lt_int, le_int, gt_int, ge_int, eq_int, ne_int, eq_bl, ne_bl, len_lst, len_tup, add_int, sub_int, sub_lst, sub_tup, tru_bl, recvM, z1]
        rw [if_neg z]
    have e : (o.map fun k => D.str [if lv.getD k 0 = 1 then turnC (List.getD ((t.drop p).take (c - p)) k 0) else List.getD ((t.drop p).take (c - p)) k 0]) = (seen ((t.drop p).take (c - p)) lv o).map fun c => .str [c] := by unfold seen; rw [List.map_map]; rfl
    rw [e]
    have hsl : (seen ((t.drop p).take (c - p)) lv o).length ≤ LINE := by
      unfold seen
      rw [List.length_map, hol]
      have := ht.len
      unfold LINE
      omega
    have hFL : (F.map D.str).length < LINE := by
      rw [List.length_map]
      have := ht.len
      unfold LINE
      omega
    have hss : ∀ μ2 : Mu, slcM μ2 (.str t) (some (c : Int)) (some ((c : Int) + 1)) = some (.str ((t.drop c).take 1)) := fun μ2 => by
      rw [show ((c : Int) + 1) = ((c + 1 : Nat) : Int) by omega, slc_str ht.line hcut.2, show c + 1 - c = 1 by omega]
    have hap := app_cell (v := D.str (seen ((t.drop p).take (c - p)) lv o)) (cell F) hFL
    have hFS : (F.map D.str) ++ [D.str (seen ((t.drop p).take (c - p)) lv o)] = (F ++ [segP t p c]).map .str := by rw [hseg]; simp
    have tf : ∀ (a b : R Fl), (if true = false then a else b) = b := fun a b => if_neg (by simp)
    simp -implicitDefEqProofs only [rns_cons, rns_nil, sL_cons, sL_nil, eL_cons, eL_nil, rn, ev, evT, evs, evo, evq, evi, evC, bnd_ok, calm_ok, opt_some, nxt_nx, nxt_ret, nxt_brk, nxt_ct, ev_ok, fresh, bindT, bindTs, setSl, Option.map_some, Option.map_none, List.getElem?_cons_zero, List.getElem?_cons_succ, List.set_cons_zero, List.set_cons_succ, List.length_cons, List.length_nil, Nat.reduceAdd, Nat.reduceLT, Nat.zero_lt_succ, Nat.reduceSub, if_true, ite_tt, ite_ff, Bool.false_eq_true, if_false, in_str, lt_int, le_int, gt_int, ge_int, eq_int, ne_int, eq_bl, ne_bl, len_lst, len_tup, add_int, sub_int, sub_lst, sub_tup, tru_bl, recvM, join_sing hsl, is_cell (cell F), tf, hap, set_app, hFS, hss, evo, eq_str (sl_ok ht c 1) (show cOk [32] from rfl)]
    unfold nextP at hinv hnext
    by_cases z : (t.drop c).take 1 = [32]
    · have z1 : ((t.drop c).take 1 == [32]) = true := beq_iff_eq.mpr z
      rw [if_pos z] at hinv hnext
      simp -implicitDefEqProofs only [rns_cons, rns_nil, sL_cons, sL_nil, eL_cons, eL_nil, rn, ev, evT, evs, evo, evq, evi, evC, bnd_ok, calm_ok, opt_some, nxt_nx, nxt_ret, nxt_brk, nxt_ct, ev_ok, fresh, bindT, bindTs, setSl, Option.map_some, Option.map_none, List.getElem?_cons_zero, List.getElem?_cons_succ, List.set_cons_zero, List.set_cons_succ, List.length_cons, List.length_nil, Nat.reduceAdd, Nat.reduceLT, Nat.zero_lt_succ, Nat.reduceSub, if_true, ite_tt, ite_ff, Bool.false_eq_true, if_false, in_str, lt_int, le_int, gt_int, ge_int, eq_int, ne_int, eq_bl, ne_bl, len_lst, len_tup, add_int, sub_int, sub_lst, sub_tup, tru_bl, recvM, z1]
      refine ⟨_, t.length - (c + 1), .inl rfl, by omega, c + 1, F ++ [segP t p c], _, _, _, _, _, _, (by first | exact True.intro | rfl | contradiction | assumption), (by first | exact True.intro | rfl | contradiction | assumption), hnext.2, by rw [← hinv]; simp, by simp; omega, rfl⟩
    · have z1 : ((t.drop c).take 1 == [32]) = false := beq_eq_false_iff_ne.mpr z
      rw [if_neg z] at hinv hnext
      simp -implicitDefEqProofs only [rns_cons, rns_nil, sL_cons, sL_nil, eL_cons, eL_nil, rn, ev, evT, evs, evo, evq, evi, evC, bnd_ok, calm_ok, opt_some, nxt_nx, nxt_ret, nxt_brk, nxt_ct, ev_ok, fresh, bindT, bindTs, setSl, Option.map_some, Option.map_none, List.getElem?_cons_zero, List.getElem?_cons_succ, List.set_cons_zero, List.set_cons_succ, List.length_cons, List.length_nil, Nat.reduceAdd, Nat.reduceLT, Nat.zero_lt_succ, Nat.reduceSub, if_true, ite_tt, ite_ff, Bool.false_eq_true, if_false, in_str, lt_int, le_int, gt_int, ge_int, eq_int, ne_int, eq_bl, ne_bl, len_lst, len_tup, add_int, sub_int, sub_lst, sub_tup, tru_bl, recvM, z1]
      refine ⟨_, t.length - c, .inl rfl, by omega, c, F ++ [segP t p c], _, _, _, _, _, _, (by first | exact True.intro | rfl | contradiction | assumption), (by first | exact True.intro | rfl | contradiction | assumption), hcut.2, by rw [← hinv]; simp, by simp; omega, rfl⟩
  · have hpe : p = t.length := by have := of_decide_eq_false hc; omega
    subst hpe
    have hF2 : F = Lf t wide t.length 0 := by
      rw [← hinv, Lf_end (Nat.le_refl _), List.append_nil]
    rw [← hF2]
    simp -implicitDefEqProofs only [rns_cons, rns_nil, sL_cons, sL_nil, eL_cons, eL_nil, rn, ev, evT, evs, evo, evq, evi, evC, bnd_ok, calm_ok, opt_some, nxt_nx, nxt_ret, nxt_brk, nxt_ct, ev_ok, fresh, bindT, bindTs, setSl, Option.map_some, Option.map_none, List.getElem?_cons_zero, List.getElem?_cons_succ, List.set_cons_zero, List.set_cons_succ, List.length_cons, List.length_nil, Nat.reduceAdd, Nat.reduceLT, Nat.zero_lt_succ, Nat.reduceSub, if_true, ite_tt, ite_ff, Bool.false_eq_true, if_false, in_str, lt_int, le_int, gt_int, ge_int, eq_int, ne_int, eq_bl, ne_bl, len_lst, len_tup, add_int, sub_int, sub_lst, sub_tup, tru_bl, recvM, tup_cell (cell F)]
    exact ⟨_, .inl rfl, done_dry hμ (by simp only [dry]; exact drys_map (fun _ => rfl) _)⟩
end Mi
set_option Elab.async false
set_option linter.all false
set_option maxRecDepth 100000
set_option maxHeartbeats 4000000
/-! P27: the law's own lines. -/
namespace Mi
theorem fm_range {q : Nat → Bool} {a : Nat} : ∀ l : List Nat, (l.filterMap fun i => if q (a + i) = true then some (a + i) else none) = (l.map (a + ·)).filter q
  | [] => rfl
  | i :: l => by
    rw [List.map_cons]
    cases h : q (a + i) with
    | true => rw [List.filterMap_cons_some (b := a + i) (by simp [h]), List.filter_cons_of_pos h, fm_range l]
    | false => rw [List.filterMap_cons_none (by simp [h]), List.filter_cons_of_neg (by simp [h]), fm_range l]
theorem rng_two {a b : Nat} (ha : a < 1000) (hb : b < 1000) : rngM [.int (a : Int), .int (b : Int)] = some ((List.range (b - a)).map fun (i : Nat) => .int (((a + i : Nat)) : Int)) := by
  have e := rngL_up (lo := (a : Int)) (hi := (b : Int)) (small_nat (by omega) (by omega)) (small_nat (by omega) (by omega)) (decide_eq_true (by omega)) (decide_eq_true (by omega))
  rw [show ((b : Int) - (a : Int)).toNat = b - a by omega] at e
  refine Eq.trans (show rngM [.int (a : Int), .int (b : Int)] = rngL (a : Int) (b : Int) 1 from rfl) (e.trans (congrArg some (List.map_congr_left fun k _ => ?_)))
  rw [show ((a : Int) + (k : Int)) = ((a + k : Nat) : Int) by omega]
theorem plains_intz : ∀ l : List Nat, plains 19 (intz l) = true
  | [] => rfl
  | k :: l => by
    show (plain 19 (.int (k : Int)) && plains 19 (intz l)) = true
    rw [plains_intz l]
    rfl
theorem lord_mem {lv : List Int} {k : Nat} (h : k ∈ lorder lv) : k < lv.length := by
  unfold lorder at h
  have p1 := rv_perm (gv lv 1) (RR_ (gv lv 2) (List.range lv.length)) []
  have p2 := rv_perm (gv lv 2) (List.range lv.length) []
  have := p1.mem_iff.mp h
  rw [List.nil_append] at this
  have := p2.mem_iff.mp this
  rw [List.nil_append] at this
  exact List.mem_range.mp this
theorem lord_len (lv : List Int) : (lorder lv).length = lv.length := by
  unfold lorder
  have p1 := (rv_perm (gv lv 1) (RR_ (gv lv 2) (List.range lv.length)) []).length_eq
  have p2 := (rv_perm (gv lv 2) (List.range lv.length) []).length_eq
  rw [List.nil_append] at p1 p2
  rw [show (RR_ (gv lv 1) (RR_ (gv lv 2) (List.range lv.length))).length = _ from p1, p2, List.length_range]
theorem f_lrows (n : Nat) (t : T) (wide : Nat) (μ : Mu) (hμ : drys μ = true) (ht : Tx t) (hw : 1 ≤ wide) (hw2 : wide ≤ 80) : (K (n + 3)).fn 24 [.str t, .int (wide : Int)] μ = .ok (.lst ((Lf t wide t.length 0).map .str)) μ := by
  rw [fn_at (d := dF__law_rows) rfl]
  show fun_ (K (n + 2)) 9 false b__law_rows [.str t, .int (wide : Int)] μ = _
  refine fun_ret [some (.str t), some (.int (wide : Int)), none, none, none, none, none, none, none] rfl ?_
  unfold b__law_rows
  have hb := beginP_01 t
  have hlen := levels_len (beginP t) t
  simp -implicitDefEqProofs only [rns_cons, rns_nil, sL_cons, sL_nil, eL_cons, eL_nil, rn, ev, evT, evs, evo, evq, evi, evC, bnd_ok, calm_ok, opt_some, nxt_nx, nxt_ret, nxt_brk, nxt_ct, ev_ok, fresh, bindT, bindTs, setSl, Option.map_some, Option.map_none, List.getElem?_cons_zero, List.getElem?_cons_succ, List.set_cons_zero, List.set_cons_succ, List.length_cons, List.length_nil, Nat.reduceAdd, Nat.reduceLT, Nat.zero_lt_succ, Nat.reduceSub, if_true, ite_tt, ite_ff, Bool.false_eq_true, if_false, in_str, lt_int, le_int, gt_int, ge_int, eq_int, ne_int, eq_bl, ne_bl, len_lst, len_tup, add_int, sub_int, sub_lst, sub_tup, tru_bl, recvM, f_lbegin n t μ hμ ht, f_llevels n t (beginP t) μ hμ ht hb]
  rw [ev_bnd]
  have hlvn : ((levels (beginP t) t).map D.int).length = t.length := by rw [List.length_map, hlen]
  refine whl_inv (fun k σ μ' => ∃ (p : Nat) (F : List T) (x5 x6 x7 : Option D), σ = [some (.str t), some (.int (wide : Int)), some (.lst ((levels (beginP t) t).map .int)), some (.lst (F.map .str)), some (.int (p : Int)), x5, x6, x7, none] ∧ μ' = μ ∧ p ≤ t.length ∧ F ++ Lf t wide (t.length - p) p = Lf t wide t.length 0 ∧ F.length ≤ p ∧ k = t.length - p) ?_ FUEL t.length _ _ (by unfold FUEL; have := ht.len; omega) ⟨0, [], _, _, _, rfl, rfl, Nat.zero_le _, by simp, Nat.le_refl _, by simp⟩
  rintro k σ μ' ⟨p, F, x5, x6, x7, rfl, rfl, hp, hinv, hF, rfl⟩
  simp -implicitDefEqProofs only [rns_cons, rns_nil, sL_cons, sL_nil, eL_cons, eL_nil, rn, ev, evT, evs, evo, evq, evi, evC, bnd_ok, calm_ok, opt_some, nxt_nx, nxt_ret, nxt_brk, nxt_ct, ev_ok, fresh, bindT, bindTs, setSl, Option.map_some, Option.map_none, List.getElem?_cons_zero, List.getElem?_cons_succ, List.set_cons_zero, List.set_cons_succ, List.length_cons, List.length_nil, Nat.reduceAdd, Nat.reduceLT, Nat.zero_lt_succ, Nat.reduceSub, if_true, ite_tt, ite_ff, Bool.false_eq_true, if_false, in_str, lt_int, le_int, gt_int, ge_int, eq_int, ne_int, eq_bl, ne_bl, len_lst, len_tup, add_int, sub_int, sub_lst, sub_tup, tru_bl, recvM, len_str ht.line]
  refine ⟨fun hc => ?_, fun hc => ?_⟩
  · have hpn : p < t.length := by have := of_decide_eq_true hc; omega
    rw [Lf_step hw hpn] at hinv
    have hcut := cutP_ok hw hpn
    have hnext := nextP_ok hcut.2
    have hmin : min t.length (p + wide) = min t.length (p + wide) := rfl
    generalize he : min t.length (p + wide) = e at hmin
    have ht80 := ht.len
    have hadd : (p : Int) + (wide : Int) = ((p + wide : Nat) : Int) := by omega
    have hadd1 : ((p + wide : Nat) : Int) + 1 = ((p + wide + 1 : Nat) : Int) := by omega
    have hadd2 : (p : Int) + 1 = ((p + 1 : Nat) : Int) := by omega
    have hmn : bltM .min μ' [.int (t.length : Int), .int ((p + wide : Nat) : Int)] = some (.int (e : Int)) := by rw [min_nat, he]
    have hmn2 : bltM .min μ' [.int (t.length : Int), .int ((p + wide + 1 : Nat) : Int)] = some (.int ((min t.length (p + wide + 1) : Nat) : Int)) := min_nat
    have hrg := rng_two (a := p + 1) (b := min t.length (p + wide + 1)) (by omega) (by omega)
    simp -implicitDefEqProofs only [rns_cons, rns_nil, sL_cons, sL_nil, eL_cons, eL_nil, rn, ev, evT, evs, evo, evq, evi, evC, bnd_ok, calm_ok, opt_some, nxt_nx, nxt_ret, nxt_brk, nxt_ct, ev_ok, fresh, bindT, bindTs, setSl, Option.map_some, Option.map_none, List.getElem?_cons_zero, List.getElem?_cons_succ, List.set_cons_zero, List.set_cons_succ, List.length_cons, List.length_nil, Nat.reduceAdd, Nat.reduceLT, Nat.zero_lt_succ, Nat.reduceSub, if_true, ite_tt, ite_ff, Bool.false_eq_true, if_false, in_str, lt_int, le_int, gt_int, ge_int, eq_int, ne_int, eq_bl, ne_bl, len_lst, len_tup, add_int, sub_int, sub_lst, sub_tup, tru_bl, recvM, hadd, hadd1, hadd2, hmn, hmn2, hrg, len_str ht.line]
    simp only [ev_bnd, ev_calm]
    refine ev_mapF (fun i => if isB t (p + 1 + i) = true then some (p + 1 + i) else none) (fun j => .int (j : Int)) wOk_nil (fun i hi => ?_) ?_
    · have hi := List.mem_range.mp hi
      have a1 : subM μ' (.str t) (.int ((p + 1 + i : Nat) : Int)) = some (.str [List.getD t (p + 1 + i) 0]) := sub_str ht.line (atD_some (by rw [List.getElem?_eq_getElem (show p + 1 + i < t.length by omega), getD_at (by omega)]))
      have okc : cOk [List.getD t (p + 1 + i) 0] := by
        rw [getD_at (show p + 1 + i < t.length by omega)]
        unfold cOk
        simp [al_lt _ (ht.at_ (show p + 1 + i < t.length by omega))]
      rw [turnM_1 (by simp)]
      simp -implicitDefEqProofs only [rns_cons, rns_nil, sL_cons, sL_nil, eL_cons, eL_nil, rn, ev, evT, evs, evo, evq, evi, evC, bnd_ok, calm_ok, opt_some, nxt_nx, nxt_ret, nxt_brk, nxt_ct, ev_ok, fresh, bindT, bindTs, setSl, Option.map_some, Option.map_none, List.getElem?_cons_zero, List.getElem?_cons_succ, List.set_cons_zero, List.set_cons_succ, List.length_cons, List.length_nil, Nat.reduceAdd, Nat.reduceLT, Nat.zero_lt_succ, Nat.reduceSub, if_true, ite_tt, ite_ff, Bool.false_eq_true, if_false, in_str, lt_int, le_int, gt_int, ge_int, eq_int, ne_int, eq_bl, ne_bl, len_lst, len_tup, add_int, sub_int, sub_lst, sub_tup, tru_bl, recvM, a1, eq_str okc (show cOk [32] from rfl)]
      have e1 : (([List.getD t (p + 1 + i) 0] : T) == [32]) = isB t (p + 1 + i) := by
        unfold isB
        by_cases q : List.getD t (p + 1 + i) 0 = 32
        · rw [q]; rfl
        · rw [beq_eq_false_iff_ne.mpr q, beq_eq_false_iff_ne.mpr (by simpa using q)]
      rw [e1]
      cases isB t (p + 1 + i) <;> rfl
    rw [fm_range, show (List.range (min t.length (p + wide + 1) - (p + 1))).map (p + 1 + ·) = List.range' (p + 1) (min t.length (p + wide + 1) - (p + 1)) by rw [List.range'_eq_map_range]]
    have hB : e < t.length → ((List.range' (p + 1) (min t.length (p + wide + 1) - (p + 1))).filter (isB t)).getLast? = lastB t p e := fun h => by
      unfold lastB
      rw [show min t.length (p + wide + 1) - (p + 1) = e - p by omega]
    generalize (List.range' (p + 1) (min t.length (p + wide + 1) - (p + 1))).filter (isB t) = B at hB
    have ng : ∀ xs : List D, subM μ' (.lst xs) (.int (-1)) = atD xs (-1) := fun _ => rfl
    have hcv : ((if decide ((e : Int) < (t.length : Int)) = true then R.ok (!(intz B).isEmpty) μ' else R.ok false μ').bnd fun tt μ => if tt = true then opt (atD (intz B) (-1)) μ else R.ok (D.int (e : Int)) μ) = .ok (.int (cutP t wide p : Int)) μ' := by
      unfold cutP
      rw [he]
      by_cases h1 : e < t.length
      · rw [decide_eq_true (show (e : Int) < (t.length : Int) by omega), if_pos rfl, bnd_ok, if_pos h1, ← hB h1]
        cases q : B.getLast? with
        | none =>
          have : B = [] := List.getLast?_eq_none_iff.mp q
          subst this
          rfl
        | some y =>
          have hne : (intz B).isEmpty = false := by
            cases B with
            | nil => cases q
            | cons _ _ => rfl
          have hat : atD (intz B) (-1) = some (.int (y : Int)) := atD_neg1 (by rw [List.getLast?_map, q]; rfl)
          rw [hne, Bool.not_false, if_pos rfl, hat]
          rfl
      · rw [decide_eq_false (show ¬ (e : Int) < (t.length : Int) by omega), ite_ff, bnd_ok, ite_ff, if_neg h1]
    generalize hcc : cutP t wide p = c at *
    have hslL : slcM μ' (.lst ((levels (beginP t) t).map D.int)) (some (p : Int)) (some (c : Int)) = some (.lst ((((levels (beginP t) t).drop p).take (c - p)).map .int)) := by
      rw [slc_lh (by rw [hlvn]; omega) (by rw [hlvn]; omega)]
      simp
    have hslT : slcM μ' (.str t) (some (p : Int)) (some (c : Int)) = some (.str ((t.drop p).take (c - p))) := slc_str ht.line (by omega)
    have hLl : (((levels (beginP t) t).drop p).take (c - p)).length = c - p := slice_len (by omega) (by rw [hlen]; exact hcut.2)
    have hTl : ((t.drop p).take (c - p)).length = c - p := slice_len (by omega) hcut.2
    have hseg : segP t p c = seen ((t.drop p).take (c - p)) (((levels (beginP t) t).drop p).take (c - p)) (lorder (((levels (beginP t) t).drop p).take (c - p))) := rfl
    generalize ((levels (beginP t) t).drop p).take (c - p) = lv at *
    have hlo := f_lorder (n + 1) lv μ' hμ (by rw [hLl]; omega)
    have hse := f_seen (n + 1) ((t.drop p).take (c - p)) lv (lorder lv) μ' hμ (by rw [hTl]; omega) (by rw [hLl, hTl]) (fun q hq => by rw [hTl, ← hLl]; exact lord_mem hq) (by rw [lord_len, hLl]; omega)
    have hFL : (F.map D.str).length + [D.str (segP t p c)].length ≤ LINE := by
      rw [List.length_map]
      unfold LINE
      simp
      omega
    rw [← hseg] at hse
    have hss : slcM μ' (.str t) (some (c : Int)) (some ((c : Int) + 1)) = some (.str ((t.drop c).take 1)) := by
      rw [show ((c : Int) + 1) = ((c + 1 : Nat) : Int) by omega, slc_str ht.line hcut.2, show c + 1 - c = 1 by omega]
    have ib : ∀ (x : Bool), bltM .int μ' [.bl x] = some (.int (if x then 1 else 0)) := fun _ => rfl
    have hFS : (F.map D.str) ++ [D.str (segP t p c)] = (F ++ [segP t p c]).map .str := by simp
    simp -implicitDefEqProofs only [rns_cons, rns_nil, sL_cons, sL_nil, eL_cons, eL_nil, rn, ev, evT, evs, evo, evq, evi, evC, bnd_ok, calm_ok, opt_some, nxt_nx, nxt_ret, nxt_brk, nxt_ct, ev_ok, fresh, bindT, bindTs, setSl, Option.map_some, Option.map_none, List.getElem?_cons_zero, List.getElem?_cons_succ, List.set_cons_zero, List.set_cons_succ, List.length_cons, List.length_nil, Nat.reduceAdd, Nat.reduceLT, Nat.zero_lt_succ, Nat.reduceSub, if_true, ite_tt, ite_ff, Bool.false_eq_true, if_false, in_str, lt_int, le_int, gt_int, ge_int, eq_int, ne_int, eq_bl, ne_bl, len_lst, len_tup, add_int, sub_int, sub_lst, sub_tup, tru_bl, recvM, len_str ht.line, ne_nil (plains_intz B), ng, hcv, evo, hslT, hslL, hlo, hse, add_lst hFL, hFS, hss, eq_str (sl_ok ht c 1) (show cOk [32] from rfl), ib]
    unfold nextP at hinv hnext
    by_cases z : (t.drop c).take 1 = [32]
    · have z1 : ((t.drop c).take 1 == [32]) = true := beq_iff_eq.mpr z
      rw [if_pos z] at hinv hnext
      rw [z1, show (c : Int) + (if true = true then 1 else 0) = ((c + 1 : Nat) : Int) by rw [ite_tt]; omega]
      exact ⟨_, t.length - (c + 1), .inl rfl, by omega, c + 1, F ++ [segP t p c], _, _, _, (by first | exact True.intro | rfl | contradiction | assumption), (by first | exact True.intro | rfl | contradiction | assumption), hnext.2, by rw [← hinv]; simp, by simp; omega, rfl⟩
    · have z1 : ((t.drop c).take 1 == [32]) = false := beq_eq_false_iff_ne.mpr z
      rw [if_neg z] at hinv hnext
      rw [z1, show (c : Int) + (if false = true then 1 else 0) = (c : Int) by rw [ite_ff]; omega]
      exact ⟨_, t.length - c, .inl rfl, by omega, c, F ++ [segP t p c], _, _, _, (by first | exact True.intro | rfl | contradiction | assumption), (by first | exact True.intro | rfl | contradiction | assumption), hcut.2, by rw [← hinv]; simp, by simp; omega, rfl⟩
  · have hpe : p = t.length := by have := of_decide_eq_false hc; omega
    subst hpe
    have hF2 : F = Lf t wide t.length 0 := by
      rw [← hinv, Lf_end (Nat.le_refl _), List.append_nil]
    rw [← hF2]
    exact ⟨_, .inl rfl, done_dry0 hμ (by simp only [dry]; exact drys_map (fun _ => rfl) _)⟩
end Mi
set_option Elab.async false
set_option linter.all false
set_option maxRecDepth 100000
set_option maxHeartbeats 4000000
/-! P28: helpers of the law's end. -/
namespace Mi
theorem plain_ok (a b m : Int) : (K 11).fn 25 [] (DM a b m) = .ok (.bl true) (DM a b m) := by kernel_rfl
theorem toInts_intz (o : List Nat) : toInts (intz o) = some (o.map fun (k : Nat) => (k : Int)) := by
  have : intz o = (o.map fun (k : Nat) => (k : Int)).map .int := by simp [intz]
  rw [this, toInts_map]
theorem sort_perm {o : List Nat} {n : Nat} (h : o.Perm (List.range n)) : sortI (o.map fun (k : Nat) => (k : Int)) = (List.range n).map fun (k : Nat) => (k : Int) := by
  refine List.Perm.eq_of_pairwise (fun a b _ _ h1 h2 => Int.le_antisymm h1 h2) (sortI_sorted _) ?_ ((sortI_perm _).trans (h.map _))
  refine List.Pairwise.map _ (fun a b hab => ?_) (List.pairwise_lt_range (n := n))
  omega
theorem sorted_lst {μ : Mu} {o : List Nat} {n : Nat} (h : o.Perm (List.range n)) (hn : n < 64) : bltM .sorted μ [.lst (intz o)] = some (.lst (intz (List.range n))) := by
  have e : bltM .sorted μ [.lst (intz o)] = match toInts (intz o) with
    | some ns => if ns.length < 64 then some (.lst ((sortI ns).map .int)) else none
    | none => none := rfl
  have hl := h.length_eq
  rw [List.length_range] at hl
  rw [e, toInts_intz]
  show (if (o.map fun (k : Nat) => (k : Int)).length < 64 then some (D.lst ((sortI (o.map fun (k : Nat) => (k : Int))).map .int)) else none) = _
  rw [if_pos (by rw [List.length_map]; omega), sort_perm h]
  simp [intz]
theorem sorted_tup {μ : Mu} {o : List Nat} {n : Nat} {k : Bool} (h : o.Perm (List.range n)) (hn : n < 64) : bltM .sorted μ [.tup k (intz o)] = some (.lst (intz (List.range n))) := by
  have e : bltM .sorted μ [.tup k (intz o)] = bltM .sorted μ [.lst (intz o)] := rfl
  rw [e, sorted_lst h hn]
theorem ls_tup {μ : Mu} {k : Bool} {xs : List D} : lsofM μ (.tup k xs) = some xs := rfl
theorem ne_lst_self {μ : Mu} {xs : List D} (h : plains 19 xs = true) : cmpM .ne μ (.lst xs) (.lst xs) = some false := ne_self (by simpa [plain] using h)
theorem ne_str_self {μ : Mu} {s : T} (h : cOk s) : cmpM .ne μ (.str s) (.str s) = some false := ne_self h
theorem al_turn : ∀ c ∈ [97, 98, 65, 66, 49, 50, 46, 32, 40, 41, 44, 45], turnC c < 1114112 := by decide
theorem seen_ok {t : T} (ht : Tx t) (lv : List Int) (o : List Nat) (ho : ∀ p ∈ o, p < t.length) : cOk (seen t lv o) := by
  unfold cOk seen
  rw [List.all_eq_true]
  intro x hx
  obtain ⟨k, hk, rfl⟩ := List.mem_map.mp hx
  have hkt := ho k hk
  rw [getD_at hkt]
  refine decide_eq_true ?_
  split
  · exact al_turn _ (ht.at_ hkt)
  · exact al_lt _ (ht.at_ hkt)
theorem fm_any {l : List Nat} {q : Nat → Bool} {g : D} : (((l.filterMap fun c => if q c = true then some c else none).map fun _ => g)).isEmpty = !(l.any q) := by
  induction l with
  | nil => rfl
  | cons c l ih =>
    cases h : q c with
    | true => rw [List.filterMap_cons_some (b := c) (by simp [h]), List.any_cons, h]; rfl
    | false => rw [List.filterMap_cons_none (by simp [h]), List.any_cons, h, ih]; rfl
theorem plains_const {α : Type} : ∀ (l : List α), plains 19 (l.map fun _ => D.int 1) = true
  | [] => rfl
  | _ :: l => by
    show (plain 19 (.int 1) && plains 19 (l.map fun _ => D.int 1)) = true
    rw [plains_const l]
    rfl
theorem al_ab : ∀ c ∈ [97, 98, 65, 66, 49, 50, 46, 32, 40, 41, 44, 45], List.contains [97, 98] c = (kindC c == [76]) ∧ List.contains [65, 66] c = (kindC c == [82]) := by decide
theorem any_congr {l : List Nat} {p q : Nat → Bool} (h : ∀ c ∈ l, p c = q c) : l.any p = l.any q := by
  induction l with
  | nil => rfl
  | cons c l ih => rw [List.any_cons, List.any_cons, h c List.mem_cons_self, ih fun d hd => h d (List.mem_cons_of_mem _ hd)]
theorem plains_nat {α : Type} {f : α → Nat} : ∀ (l : List α), plains 19 (l.map fun k => D.int ((f k : Nat) : Int)) = true
  | [] => rfl
  | k :: l => by
    show (plain 19 (.int ((f k : Nat) : Int)) && plains 19 (l.map fun k => D.int ((f k : Nat) : Int))) = true
    rw [plains_nat l]
    rfl
theorem plains_rowf {α : Type} {f : α → Row} : ∀ (l : List α), plains 19 (l.map fun k => rowD (f k)) = true
  | [] => rfl
  | k :: l => by
    show (plain 19 (rowD (f k)) && plains 19 (l.map fun k => rowD (f k))) = true
    rw [plains_rowf l]
    rfl
/-! ### how much is marked -/
def sumP (F : List Pr) : Int := (F.map fun r => ((r.2 : Int) - (r.1 : Int))).sum
theorem sumP_app (F G : List Pr) : sumP (F ++ G) = sumP F + sumP G := by
  unfold sumP
  rw [List.map_append, List.sum_append]
theorem mstep_sum (F : List Pr) (k : Nat) : sumP (mstep F k) = sumP F + 1 := by
  unfold mstep
  cases h : F.getLast? with
  | none =>
    have : F = [] := List.getLast?_eq_none_iff.mp h
    subst this
    show ((k + 1 : Nat) : Int) - (k : Int) + 0 = 0 + 1
    omega
  | some r =>
    obtain ⟨G, rfl⟩ := List.getLast?_eq_some_iff.mp h
    show sumP (if r.2 = k then (G ++ [r]).dropLast ++ [(r.1, k + 1)] else G ++ [r] ++ [(k, k + 1)]) = _
    split
    · rename_i q
      rw [List.dropLast_concat, sumP_app, sumP_app]
      have a1 : sumP [(r.1, k + 1)] = ((k + 1 : Nat) : Int) - (r.1 : Int) := by show ((k + 1 : Nat) : Int) - (r.1 : Int) + 0 = _; omega
      have a2 : sumP [r] = (r.2 : Int) - (r.1 : Int) := by show (r.2 : Int) - (r.1 : Int) + 0 = _; omega
      rw [a1, a2]
      omega
    · rw [sumP_app (G ++ [r])]
      have a1 : sumP [(k, k + 1)] = 1 := by show ((k + 1 : Nat) : Int) - (k : Int) + 0 = _; omega
      rw [a1]
theorem fold_sum : ∀ (l : List Nat) (F : List Pr), sumP (l.foldl mstep F) = sumP F + l.length
  | [], F => by simp
  | k :: l, F => by
    rw [List.foldl_cons, fold_sum l, mstep_sum, List.length_cons]
    omega
theorem spots_count {o : List Nat} {n first last : Nat} (h : o.Perm (List.range n)) (h1 : first ≤ last) (h2 : last ≤ n) : (spots o first last n).length = last - first := by
  have hl : o.length = n := by have := h.length_eq; rwa [List.length_range] at this
  have e1 : (spots o first last n).length = (o.filter fun p => decide (first ≤ p) && decide (p < last)).length := by
    have e : o = (List.range n).map fun k => o.getD k 0 := by
      apply List.ext_getElem?
      intro i
      by_cases hi : i < n
      · rw [List.getElem?_map, List.getElem?_range hi, List.getElem?_eq_getElem (by omega)]
        simp [List.getD, List.getElem?_eq_getElem (show i < o.length by omega)]
      · rw [List.getElem?_eq_none (by omega), List.getElem?_eq_none (by simp; omega)]
    conv => rhs; rw [e]
    rw [List.filter_map, List.length_map]
    rfl
  rw [e1, (h.filter _).length_eq]
  clear e1 hl h o
  induction n with
  | zero => simp; omega
  | succ n ih =>
    rw [List.range_succ, List.filter_append, List.length_append]
    by_cases q : last ≤ n
    · rw [ih q]
      have : decide (n < last) = false := decide_eq_false (by omega)
      simp [this]
    · have hl : last = n + 1 := by omega
      subst hl
      by_cases q2 : first ≤ n
      · have a1 : ((List.range n).filter fun p => decide (first ≤ p) && decide (p < n + 1)).length = ((List.range n).filter fun p => decide (first ≤ p) && decide (p < n)).length := by
          congr 1
          apply List.filter_congr
          intro p hp
          have := List.mem_range.mp hp
          rw [decide_eq_true (show p < n + 1 by omega), decide_eq_true this]
        have a2 : ∀ m, first ≤ m → ((List.range m).filter fun p => decide (first ≤ p) && decide (p < m)).length = m - first := by
          intro m hm
          have : ((List.range m).filter fun p => decide (first ≤ p) && decide (p < m)) = (List.range m).filter fun p => decide (first ≤ p) := by
            apply List.filter_congr
            intro p hp
            rw [decide_eq_true (List.mem_range.mp hp), Bool.and_true]
          rw [this]
          clear this a1 q2 q ih h1 h2
          induction m with
          | zero => simp
          | succ m ihm =>
            rw [List.range_succ, List.filter_append, List.length_append]
            by_cases z : first ≤ m
            · rw [ihm z]; simp [z]; omega
            · have : first = m + 1 := by omega
              subst this
              have e0 : (List.range m).filter (fun p => decide (m + 1 ≤ p)) = [] := by
                rw [List.filter_eq_nil_iff]
                intro p hp
                have := List.mem_range.mp hp
                simp; omega
              rw [e0]
              simp
        rw [a1, a2 n q2]
        simp [q2]
        omega
      · have hf : first = n + 1 := by omega
        subst hf
        have e0 : (List.range n).filter (fun p => decide (n + 1 ≤ p) && decide (p < n + 1)) = [] := by
          rw [List.filter_eq_nil_iff]
          intro p hp
          have := List.mem_range.mp hp
          simp
          try omega
        rw [e0]
        simp
theorem marks_sum {o : List Nat} {n first last : Nat} (h : o.Perm (List.range n)) (h1 : first ≤ last) (h2 : last ≤ n) : sumP (marks o first last n) = (last : Int) - (first : Int) := by
  unfold marks
  rw [fold_sum, spots_count h h1 h2]
  show (0 : Int) + ((last - first : Nat) : Int) = _
  omega
theorem enum_map {f : Nat → D} : ∀ (m j : Nat) (l : List D), l.length = m → (∀ i, i < m → l[i]? = some (f (j + i))) → enumL j l = (List.range' j m).map fun k => .tup false [.int (k : Int), f k]
  | 0, j, [], _, _ => rfl
  | m + 1, j, x :: l, hl, h => by
    have hx : x = f j := by
      have := h 0 (by omega)
      simpa using this
    show D.tup false [.int (j : Int), x] :: enumL (j + 1) l = _
    rw [enum_map m (j + 1) l (by simpa using hl) fun i hi => by
      have := h (i + 1) (by omega)
      rw [List.getElem?_cons_succ] at this
      rw [this]
      congr 2
      omega]
    rw [hx, List.range'_succ, List.map_cons]
theorem enum_intz (o : List Nat) : enumL 0 (intz o) = (List.range o.length).map fun k => .tup false [.int (k : Int), .int ((o.getD k 0 : Nat) : Int)] := by
  rw [enum_map (f := fun k => .int ((o.getD k 0 : Nat) : Int)) o.length 0 (intz o) (by simp) fun i hi => by
    rw [List.getElem?_map, Nat.zero_add, List.getElem?_eq_getElem hi]
    simp [List.getD, List.getElem?_eq_getElem hi]]
  rw [← List.range_eq_range']
theorem bindT_2 {i j : Nat} {x y : D} {k : Bool} {σ : Sl} {μ : Mu} (h : i < σ.length) (h2 : j < σ.length) : bindT μ (.tup [.one i, .one j]) (.tup k [x, y]) σ = some ((σ.set i (some x)).set j (some y)) := by
  unfold bindT
  simp only [seqOf, view, bindTs, bindT, h, if_true, List.length_set, h2]
theorem ys_int : ∀ {ys : List D}, (∀ y ∈ ys, ∃ r : Nat, r < 5 ∧ y = .int (r : Int)) → ∃ ns : List Int, ys = ns.map .int ∧ ∀ x ∈ ns, 0 ≤ x ∧ x ≤ (4 : Nat)
  | [], _ => ⟨[], rfl, fun c h => absurd h List.not_mem_nil⟩
  | y :: ys, h => by
    obtain ⟨c, hc, rfl⟩ := h y List.mem_cons_self
    obtain ⟨cs, rfl, hcs⟩ := ys_int fun z hz => h z (List.mem_cons_of_mem _ hz)
    exact ⟨(c : Int) :: cs, rfl, fun d hd => by
      rcases List.mem_cons.mp hd with e | e
      · rw [e]; omega
      · exact hcs d e⟩
theorem ys_tx : ∀ {ys : List D}, (∀ y ∈ ys, ∃ t : T, Tx t ∧ t.length < 6 ∧ y = .str t) → ∃ ts : List T, ys = ts.map .str ∧ ∀ t ∈ ts, Tx t ∧ t.length < 6
  | [], _ => ⟨[], rfl, fun c h => absurd h List.not_mem_nil⟩
  | y :: ys, h => by
    obtain ⟨c, hc, hc6, rfl⟩ := h y List.mem_cons_self
    obtain ⟨cs, rfl, hcs⟩ := ys_tx fun z hz => h z (List.mem_cons_of_mem _ hz)
    exact ⟨c :: cs, rfl, fun d hd => by
      rcases List.mem_cons.mp hd with e | e
      · rw [e]; exact ⟨hc, hc6⟩
      · exact hcs d e⟩
theorem Tx.slice {t : T} (h : Tx t) (k m : Nat) : Tx ((t.drop k).take m) := ⟨by rw [List.length_take, List.length_drop]; have := h.len; omega, fun c hc => h.al c (List.mem_of_mem_drop (List.mem_of_mem_take hc))⟩
theorem segP_ok {t : T} (ht : Tx t) {k c : Nat} (hk : k ≤ c) (hc : c ≤ t.length) : cOk (segP t k c) := by
  unfold segP
  have hl : (((levels (beginP t) t).drop k).take (c - k)).length = c - k := slice_len hk (by rw [levels_len]; exact hc)
  refine seen_ok (ht.slice k (c - k)) _ _ fun p hp => ?_
  have := lord_mem hp
  rw [hl] at this
  rw [slice_len hk hc]
  exact this
theorem Lf_ok {t : T} (ht : Tx t) {wide : Nat} (hw : 1 ≤ wide) : ∀ (f k : Nat), ∀ x ∈ Lf t wide f k, cOk x
  | 0, _, x, h => absurd h List.not_mem_nil
  | f + 1, k, x, h => by
    unfold Lf at h
    split at h
    · rename_i hk
      have hc := cutP_ok hw hk
      rcases List.mem_cons.mp h with e | e
      · rw [e]; exact segP_ok ht (by omega) hc.2
      · exact Lf_ok ht hw f _ x e
    · cases h
theorem plains_strs : ∀ {l : List T}, (∀ x ∈ l, cOk x) → plains 19 (l.map D.str) = true
  | [], _ => rfl
  | x :: l, h => by
    rw [List.map_cons]
    unfold plains
    rw [Bool.and_eq_true]
    exact ⟨h x List.mem_cons_self, plains_strs fun y hy => h y (List.mem_cons_of_mem _ hy)⟩
theorem joinT_ok : ∀ {l : List T}, (∀ x ∈ l, cOk x) → cOk (joinT [32] l)
  | [], _ => rfl
  | [x], h => h x List.mem_cons_self
  | x :: y :: l, h => by
    have ih := joinT_ok (l := y :: l) fun z hz => h z (List.mem_cons_of_mem _ hz)
    show ((x ++ [32] ++ joinT [32] (y :: l)).all (· < 1114112)) = true
    rw [List.all_append, List.all_append, Bool.and_eq_true, Bool.and_eq_true]
    exact ⟨⟨h x List.mem_cons_self, rfl⟩, ih⟩
theorem lineP_ok {t : T} (ht : Tx t) : cOk (lineP t) := by
  unfold lineP
  exact seen_ok ht _ _ fun p hp => by have := ord_mem.mp hp; rwa [levels_len] at this
theorem apart_ok {ts : List T} (h : ∀ t ∈ ts, Tx t) (b : Int) : cOk (apart ts b) := by
  unfold apart
  have hx : ∀ x ∈ ts.map lineP, cOk x := fun x hx => by
    obtain ⟨t, ht, rfl⟩ := List.mem_map.mp hx
    exact lineP_ok (h t ht)
  split
  · exact joinT_ok hx
  · exact joinT_ok fun x hx2 => hx x (List.mem_reverse.mp hx2)
theorem f_part (t : T) (μ : Mu) (hμ : drys μ = true) (ht : Tx t) : (K 11).fn 22 [.str t, .lst ((levels (beginP t) t).map .int), .lst (intz (lorder (levels (beginP t) t)))] μ = .ok (.str (lineP t)) μ := by
  have hb := beginP_01 t
  have e := sorder_eq (levels_le hb t)
  rw [← e]
  exact f_seen 10 t (levels (beginP t) t) (sorder (levels (beginP t) t)) μ hμ ht.len (levels_len _ _) (fun p hp => by have := ord_mem.mp hp; rwa [levels_len] at this) (by rw [ord_len, levels_len]; exact ht.len)
theorem ev_rolls {f : D → Mu → R (Option D)} {l : List D} {μ : Mu} (hm : IsDM μ) (hf : ∀ x μ, IsDM μ → Ev (f x μ) fun o μ' => ∃ y, o = some y ∧ (∃ r : Nat, r < 5 ∧ y = D.int (r : Int)) ∧ IsDM μ') :
    Ev (mapR [] f l μ) fun ys μ' => ∃ nl : List Int, ys = nl.map .int ∧ nl.length = l.length ∧ (∀ x ∈ nl, 0 ≤ x ∧ x ≤ (4 : Nat)) ∧ IsDM μ' := by
  refine (ev_mapS IsDM (fun y => ∃ r : Nat, r < 5 ∧ y = D.int (r : Int)) (ws := []) (fun _ _ => wOk_nil) (fun x _ μ hμ => hf x μ hμ) hm).mono fun ys μ2 h => ?_
  obtain ⟨k1, k2, k3⟩ := h
  obtain ⟨nl, rfl, hnl⟩ := ys_int k2
  exact ⟨nl, rfl, by rw [← k1, List.length_map], hnl, k3⟩
theorem ev_rollsC {f : D → Mu → R (Option D)} {l : List D} {μ : Mu} {P : List D → Mu → Prop} (hm : IsDM μ) (hf : ∀ x μ, IsDM μ → Ev (f x μ) fun o μ' => ∃ y, o = some y ∧ (∃ r : Nat, r < 5 ∧ y = D.int (r : Int)) ∧ IsDM μ')
    (hp : ∀ (nl : List Int) (μ' : Mu), nl.length = l.length → (∀ x ∈ nl, 0 ≤ x ∧ x ≤ (4 : Nat)) → IsDM μ' → P (nl.map .int) μ') : Ev (mapR [] f l μ) P := by
  refine (ev_rolls hm hf).mono fun ys μ2 h => ?_
  obtain ⟨nl, rfl, h1, h2, h3⟩ := h
  exact hp nl μ2 h1 h2 h3
end Mi
set_option Elab.async false
set_option linter.all false
set_option maxRecDepth 100000
set_option maxHeartbeats 40000000
/-! P29a: the law's turn, up to lines. -/
namespace Mi
def bodyA : List S := [
    .asg (.tup [(.one 14), (.one 15)]) (.tup (eL [(.call 18 (eL [(.var 1), (.cst (.int 16))])), (.call 15 (eL [(.var 1), (.cst (.int 2))]))])), 
    .asg (.one 2) (.call 20 (eL [(.var 14), (.var 15)])), 
    .asg (.one 3) (.call 21 (eL [(.var 2)])), 
    .ite (.or (.cmp .ne (.lsof false (.call 3 (eL [(.var 14), (.var 15)]))) (.var 2)) (.cmp .ne (.lsof false (.call 6 (eL [(.var 2)]))) (.var 3))) (sL [
      .ret (.cst (.bl false))]) (sL []), 
    .ite (.or (.cmp .ne (.blt .sorted (eL [(.var 3)])) (.lrng false (eL [(.blt .len (eL [(.var 14)]))]))) (.cmp .ne (.call 7 (eL [(.var 14), (.var 15)])) (.call 22 (eL [(.var 14), (.var 2), (.var 3)])))) (sL [
      .ret (.cst (.bl false))]) (sL []), 
    .ite (.cmp .ne (.call 2 (eL [(.var 14)])) (.call 23 (eL [(.var 14)]))) (sL [
      .ret (.cst (.bl false))]) (sL []), 
    .ite (.cmp .ne (.call 11 (eL [(.var 14)])) (.and (.cmp .ne (.comp false (.one 22) (.seq (.var 14)) (.some (.cmp .isin (.var 22) (.cst (.str [97, 98])))) (.cst (.int 1))) (.lst false (eL []))) (.cmp .ne (.comp false (.one 22) (.seq (.var 14)) (.some (.cmp .isin (.var 22) (.cst (.str [65, 66])))) (.cst (.int 1))) (.lst false (eL []))))) (sL [
      .ret (.cst (.bl false))]) (sL []), 
    .ite (.cmp .ne (.comp false (.one 9) (.rng (eL [(.blt .len (eL [(.var 14)]))])) .none (.call 8 (eL [(.var 14), (.var 15), (.var 9)]))) (.comp false (.one 9) (.rng (eL [(.blt .len (eL [(.var 14)]))])) .none (.mth .index (.var 3) (eL [(.var 9)])))) (sL [
      .ret (.cst (.bl false))]) (sL []), 
    .asg (.one 4) (.lst false (eL [])), 
    .for (.tup [(.one 9), (.one 16)]) (.enm (.var 2)) (sL [
      .asg (.one 4) (.ife (.and (.cmp .ne (.var 4) (.lst false (eL []))) (.cmp .eq (.sub (.sub (.var 4) (.neg (.cst (.int 1)))) (.cst (.int 2))) (.var 16))) (.bin .add (.slc (.var 4) .none (.some (.neg (.cst (.int 1))))) (.lst false (eL [(.tup (eL [(.sub (.sub (.var 4) (.neg (.cst (.int 1)))) (.cst (.int 0))), (.bin .add (.var 9) (.cst (.int 1))), (.var 16)]))]))) (.bin .add (.var 4) (.lst false (eL [(.tup (eL [(.var 9), (.bin .add (.var 9) (.cst (.int 1))), (.var 16)]))]))))]), 
    .asg (.one 5) (.call 21 (eL [(.comp false (.one 20) (.seq (.var 4)) .none (.sub (.var 20) (.cst (.int 2))))])), 
    .ite (.cmp .ne (.lsof false (.call 9 (eL [(.var 14), (.var 15)]))) (.comp false (.one 9) (.seq (.var 5)) .none (.sub (.var 4) (.var 9)))) (sL [
      .ret (.cst (.bl false))]) (sL []), 
    .asg (.one 6) (.call 15 (eL [(.var 1), (.bin .add (.blt .len (eL [(.var 14)])) (.cst (.int 1)))])), 
    .asg (.one 7) (.bin .add (.var 6) (.call 15 (eL [(.var 1), (.bin .add (.bin .sub (.blt .len (eL [(.var 14)])) (.var 6)) (.cst (.int 1)))]))), 
    .asg (.one 8) (.call 21 (eL [(.call 20 (eL [(.var 14), (.call 23 (eL [(.var 14)]))]))])), 
    .par [17, 18] (eL [(.comp false (.tup [(.one 9), (.one 21)]) (.enm (.var 8)) (.some (.chn (.var 6) (.more .le (.var 21) (.last .lt (.var 7))))) (.var 9)), (.lst false (eL []))]), 
    .for (.one 9) (.seq (.var 17)) (sL [
      .asg (.one 18) (.ife (.and (.cmp .ne (.var 18) (.lst false (eL []))) (.cmp .eq (.sub (.sub (.var 18) (.neg (.cst (.int 1)))) (.cst (.int 1))) (.var 9))) (.bin .add (.slc (.var 18) .none (.some (.neg (.cst (.int 1))))) (.lst false (eL [(.tup (eL [(.sub (.sub (.var 18) (.neg (.cst (.int 1)))) (.cst (.int 0))), (.bin .add (.var 9) (.cst (.int 1)))]))]))) (.bin .add (.var 18) (.lst false (eL [(.tup (eL [(.var 9), (.bin .add (.var 9) (.cst (.int 1)))]))]))))]), 
    .ite (.or (.cmp .ne (.lsof false (.call 10 (eL [(.var 14), (.var 6), (.var 7)]))) (.var 18)) (.cmp .ne (.blt .sum (eL [(.comp false (.tup [(.one 23), (.one 24)]) (.seq (.var 18)) .none (.bin .sub (.var 24) (.var 23)))])) (.bin .sub (.var 7) (.var 6)))) (sL [
      .ret (.cst (.bl false))]) (sL []), 
    .asg (.one 10) (.comp false (.one 9) (.rng (eL [(.call 15 (eL [(.var 1), (.cst (.int 4))]))])) .none (.call 18 (eL [(.var 1), (.cst (.int 6))]))), 
    .asg (.one 11) (.comp false (.one 19) (.seq (.var 10)) .none (.call 22 (eL [(.var 19), (.call 20 (eL [(.var 19), (.call 23 (eL [(.var 19)]))])), (.call 21 (eL [(.call 20 (eL [(.var 19), (.call 23 (eL [(.var 19)]))]))]))]))), 
    .ite (.cmp .ne (.call 12 (eL [(.var 10), (.var 15)])) (.mth .join (.cst (.str [32])) (eL [(.ife (.cmp .eq (.var 15) (.cst (.int 1))) (.rev (.var 11)) (.var 11))]))) (sL [
      .ret (.cst (.bl false))]) (sL []), 
    .asg (.one 12) (.bin .add (.cst (.int 1)) (.call 15 (eL [(.var 1), (.cst (.int 9))]))), 
    .ite (.cmp .ne (.lsof false (.call 13 (eL [(.var 14), (.var 12)]))) (.call 24 (eL [(.var 14), (.var 12)]))) (sL [
      .ret (.cst (.bl false))]) (sL [])]
theorem rns_app {Φ : Env} {l2 : List S} : ∀ (l1 : List S) (σ : Sl) (μ : Mu), rns Φ (sL (l1 ++ l2)) σ μ = (rns Φ (sL l1) σ μ).bnd (nxt (rns Φ (sL l2)))
  | [], σ, μ => by rw [List.nil_append, sL_nil, rns_nil, bnd_ok, nxt_nx]
  | s :: l1, σ, μ => by
    rw [List.cons_append, sL_cons, sL_cons, rns_cons, rns_cons]
    cases rn Φ s σ μ with
    | no => rfl
    | exc c μ => rfl
    | ok fl μ =>
      rw [bnd_ok, bnd_ok]
      cases fl with
      | nx σ => rw [nxt_nx, nxt_nx]; exact rns_app l1 σ μ
      | ret d => rfl
      | brk σ => rfl
      | ct σ => rfl
theorem part_A (ns : List Int) (μ : Mu) (hm : IsDM μ) : Ev (rns (K 11) (sL bodyA) [some (.scr ns), some (.ref 0), none, none, none, none, none, none, none, none, none, none, none, none, none, none, none, none, none, none, none, none, none, none, none] μ) fun fl μ' => ∃ x0 x2 x3 x4 x5 x6 x7 x8 x9 x10 x11 x12 x13 x14 x15 x16 x17 x18 x19 x20 x21 x22 x23 x24 : Option D, fl = .nx [x0, some (.ref 0), x2, x3, x4, x5, x6, x7, x8, x9, x10, x11, x12, x13, x14, x15, x16, x17, x18, x19, x20, x21, x22, x23, x24] ∧ IsDM μ' := by
  unfold bodyA
  simp -implicitDefEqProofs only [rns_cons, rns_nil, sL_cons, sL_nil, eL_cons, eL_nil, rn, ev, evT, evs, evo, evq, evi, evC, bnd_ok, calm_ok, opt_some, nxt_nx, nxt_ret, nxt_brk, nxt_ct, ev_ok, fresh, bindT, bindTs, setSl, Option.map_some, Option.map_none, List.getElem?_cons_zero, List.getElem?_cons_succ, List.set_cons_zero, List.set_cons_succ, List.length_cons, List.length_nil, Nat.reduceAdd, Nat.reduceLT, Nat.zero_lt_succ, Nat.reduceSub, if_true, ite_tt, ite_ff, Bool.false_eq_true, if_false, in_str, lt_int, le_int, gt_int, ge_int, eq_int, ne_int, eq_bl, ne_bl, len_lst, len_tup, add_int, sub_int, sub_lst, sub_tup, tru_bl, recvM]
  simp only [ev_bnd]
  refine (f_tline 9 μ hm 16 (by omega) (by omega)).mono fun d μ1 ⟨t, hd, ht, htl, hm1⟩ => ?_
  subst hd
  simp -implicitDefEqProofs only [rns_cons, rns_nil, sL_cons, sL_nil, eL_cons, eL_nil, rn, ev, evT, evs, evo, evq, evi, evC, bnd_ok, calm_ok, opt_some, nxt_nx, nxt_ret, nxt_brk, nxt_ct, ev_ok, fresh, bindT, bindTs, setSl, Option.map_some, Option.map_none, List.getElem?_cons_zero, List.getElem?_cons_succ, List.set_cons_zero, List.set_cons_succ, List.length_cons, List.length_nil, Nat.reduceAdd, Nat.reduceLT, Nat.zero_lt_succ, Nat.reduceSub, if_true, ite_tt, ite_ff, Bool.false_eq_true, if_false, in_str, lt_int, le_int, gt_int, ge_int, eq_int, ne_int, eq_bl, ne_bl, len_lst, len_tup, add_int, sub_int, sub_lst, sub_tup, tru_bl, recvM]
  simp only [ev_bnd]
  refine (f_roll 10 μ1 hm1 2 (by omega) (by omega)).mono fun d μ2 ⟨b, hd, hb2, hm2⟩ => ?_
  subst hd
  have hb : (b : Int) = 0 ∨ (b : Int) = 1 := by omega
  generalize hbb : (b : Int) = bg at hb
  have hd2 := hm2.dry
  have hlv := levels_le hb t
  have hl4 := lev4 hb t
  have hlen := levels_len bg t
  have htl2 : t.length < 16 := by omega
  have hso : sorder (levels bg t) = lorder (levels bg t) := sorder_eq hlv
  have hl80 : (levels bg t).length ≤ 80 := by rw [hlen]; exact ht.len
  have hlvn : ((levels bg t).map D.int).length = t.length := by rw [List.length_map, hlen]
  have hrg : rngM [.int (t.length : Int)] = some (intz (List.range t.length)) := rng_nat (by omega)
  have hperm : (sorder (levels bg t)).Perm (List.range t.length) := by rw [← hlen]; exact sord_perm _ _
  have hmem : ∀ p ∈ sorder (levels bg t), p < t.length := fun p hp => List.mem_range.mp (hperm.mem_iff.mp hp)
  have hol : (sorder (levels bg t)).length ≤ 80 := by rw [ord_len]; exact hl80
  have sqt : ∀ (μ2 : Mu) (k : Bool) (xs : List D), seqOf μ2 (.tup k xs) = some xs := fun _ _ _ => rfl
  simp -implicitDefEqProofs only [rns_cons, rns_nil, sL_cons, sL_nil, eL_cons, eL_nil, rn, ev, evT, evs, evo, evq, evi, evC, bnd_ok, calm_ok, opt_some, nxt_nx, nxt_ret, nxt_brk, nxt_ct, ev_ok, fresh, bindT, bindTs, setSl, Option.map_some, Option.map_none, List.getElem?_cons_zero, List.getElem?_cons_succ, List.set_cons_zero, List.set_cons_succ, List.length_cons, List.length_nil, Nat.reduceAdd, Nat.reduceLT, Nat.zero_lt_succ, Nat.reduceSub, if_true, ite_tt, ite_ff, Bool.false_eq_true, if_false, in_str, lt_int, le_int, gt_int, ge_int, eq_int, ne_int, eq_bl, ne_bl, len_lst, len_tup, add_int, sub_int, sub_lst, sub_tup, tru_bl, recvM, sqt, f_llevels 9 t bg μ2 hd2 ht hb, f_lorder 10 (levels bg t) μ2 hd2 hl80, p_levels 8 t bg μ2 hd2 ht hb, ls_tup, ne_lst_self (plains_int (levels bg t) 19), f_ord_lst 10 (levels bg t) μ2 hd2 hl80 hl4, ← hso, ne_lst_self (plains_intz (sorder (levels bg t))), sorted_lst hperm (show t.length < 64 by omega), len_str ht.line, hrg, ne_lst_self (plains_intz (List.range t.length))]
  have hseen := f_seen 10 t (levels bg t) (sorder (levels bg t)) μ2 hd2 ht.len hlen hmem hol
  simp -implicitDefEqProofs only [rns_cons, rns_nil, sL_cons, sL_nil, eL_cons, eL_nil, rn, ev, evT, evs, evo, evq, evi, evC, bnd_ok, calm_ok, opt_some, nxt_nx, nxt_ret, nxt_brk, nxt_ct, ev_ok, fresh, bindT, bindTs, setSl, Option.map_some, Option.map_none, List.getElem?_cons_zero, List.getElem?_cons_succ, List.set_cons_zero, List.set_cons_succ, List.length_cons, List.length_nil, Nat.reduceAdd, Nat.reduceLT, Nat.zero_lt_succ, Nat.reduceSub, if_true, ite_tt, ite_ff, Bool.false_eq_true, if_false, in_str, lt_int, le_int, gt_int, ge_int, eq_int, ne_int, eq_bl, ne_bl, len_lst, len_tup, add_int, sub_int, sub_lst, sub_tup, tru_bl, recvM, f_line 7 t bg μ2 hd2 ht hb, hseen, ne_str_self (seen_ok ht (levels bg t) _ hmem), f_begin 9 t μ2 hd2 ht, f_lbegin 9 t μ2 hd2 ht, beq_self_eq_true, Bool.not_true, f_mixed 9 t μ2 hd2 ht, seq_str ht.line]
  simp only [ev_bnd, ev_calm]
  refine ev_mapF (fun c => if List.contains [97, 98] c = true then some c else none) (fun _ => .int 1) rfl (fun c _ => ?_) ?_
  · rw [turnM_1 (by simp)]
    simp -implicitDefEqProofs only [rns_cons, rns_nil, sL_cons, sL_nil, eL_cons, eL_nil, rn, ev, evT, evs, evo, evq, evi, evC, bnd_ok, calm_ok, opt_some, nxt_nx, nxt_ret, nxt_brk, nxt_ct, ev_ok, fresh, bindT, bindTs, setSl, Option.map_some, Option.map_none, List.getElem?_cons_zero, List.getElem?_cons_succ, List.set_cons_zero, List.set_cons_succ, List.length_cons, List.length_nil, Nat.reduceAdd, Nat.reduceLT, Nat.zero_lt_succ, Nat.reduceSub, if_true, ite_tt, ite_ff, Bool.false_eq_true, if_false, in_str, lt_int, le_int, gt_int, ge_int, eq_int, ne_int, eq_bl, ne_bl, len_lst, len_tup, add_int, sub_int, sub_lst, sub_tup, tru_bl, recvM]
    cases List.contains [97, 98] c <;> rfl
  have hA : ((t.filterMap fun c => if List.contains [97, 98] c = true then some c else none).map fun _ => D.int 1).isEmpty = !(t.any fun c => kindC c == [76]) := by
    rw [fm_any (g := .int 1), any_congr fun c hc => (al_ab c (ht.al c hc)).1]
  have hA2 := plains_const (t.filterMap fun c => if List.contains [97, 98] c = true then some c else none)
  generalize (t.filterMap fun c => if List.contains [97, 98] c = true then some c else none).map (fun _ => D.int 1) = LA at hA hA2
  simp -implicitDefEqProofs only [rns_cons, rns_nil, sL_cons, sL_nil, eL_cons, eL_nil, rn, ev, evT, evs, evo, evq, evi, evC, bnd_ok, calm_ok, opt_some, nxt_nx, nxt_ret, nxt_brk, nxt_ct, ev_ok, fresh, bindT, bindTs, setSl, Option.map_some, Option.map_none, List.getElem?_cons_zero, List.getElem?_cons_succ, List.set_cons_zero, List.set_cons_succ, List.length_cons, List.length_nil, Nat.reduceAdd, Nat.reduceLT, Nat.zero_lt_succ, Nat.reduceSub, if_true, ite_tt, ite_ff, Bool.false_eq_true, if_false, in_str, lt_int, le_int, gt_int, ge_int, eq_int, ne_int, eq_bl, ne_bl, len_lst, len_tup, add_int, sub_int, sub_lst, sub_tup, tru_bl, recvM, ne_nil hA2, hA, Bool.not_not]
  refine Ev.mono (P := fun a μ' => a = .bl ((t.any fun c => kindC c == [76]) && (t.any fun c => kindC c == [82])) ∧ μ' = μ2) ?_ ?_
  · cases q : t.any fun c => kindC c == [76]
    · simp -implicitDefEqProofs only [rns_cons, rns_nil, sL_cons, sL_nil, eL_cons, eL_nil, rn, ev, evT, evs, evo, evq, evi, evC, bnd_ok, calm_ok, opt_some, nxt_nx, nxt_ret, nxt_brk, nxt_ct, ev_ok, fresh, bindT, bindTs, setSl, Option.map_some, Option.map_none, List.getElem?_cons_zero, List.getElem?_cons_succ, List.set_cons_zero, List.set_cons_succ, List.length_cons, List.length_nil, Nat.reduceAdd, Nat.reduceLT, Nat.zero_lt_succ, Nat.reduceSub, if_true, ite_tt, ite_ff, Bool.false_eq_true, if_false, in_str, lt_int, le_int, gt_int, ge_int, eq_int, ne_int, eq_bl, ne_bl, len_lst, len_tup, add_int, sub_int, sub_lst, sub_tup, tru_bl, recvM]
      exact ⟨(by first | exact True.intro | rfl | contradiction | assumption), (by first | exact True.intro | rfl | contradiction | assumption)⟩
    · simp -implicitDefEqProofs only [rns_cons, rns_nil, sL_cons, sL_nil, eL_cons, eL_nil, rn, ev, evT, evs, evo, evq, evi, evC, bnd_ok, calm_ok, opt_some, nxt_nx, nxt_ret, nxt_brk, nxt_ct, ev_ok, fresh, bindT, bindTs, setSl, Option.map_some, Option.map_none, List.getElem?_cons_zero, List.getElem?_cons_succ, List.set_cons_zero, List.set_cons_succ, List.length_cons, List.length_nil, Nat.reduceAdd, Nat.reduceLT, Nat.zero_lt_succ, Nat.reduceSub, if_true, ite_tt, ite_ff, Bool.false_eq_true, if_false, in_str, lt_int, le_int, gt_int, ge_int, eq_int, ne_int, eq_bl, ne_bl, len_lst, len_tup, add_int, sub_int, sub_lst, sub_tup, tru_bl, recvM]
      simp only [ev_bnd, ev_calm]
      refine ev_mapF (fun c => if List.contains [65, 66] c = true then some c else none) (fun _ => .int 1) rfl (fun c _ => ?_) ?_
      · rw [turnM_1 (by simp)]
        simp -implicitDefEqProofs only [rns_cons, rns_nil, sL_cons, sL_nil, eL_cons, eL_nil, rn, ev, evT, evs, evo, evq, evi, evC, bnd_ok, calm_ok, opt_some, nxt_nx, nxt_ret, nxt_brk, nxt_ct, ev_ok, fresh, bindT, bindTs, setSl, Option.map_some, Option.map_none, List.getElem?_cons_zero, List.getElem?_cons_succ, List.set_cons_zero, List.set_cons_succ, List.length_cons, List.length_nil, Nat.reduceAdd, Nat.reduceLT, Nat.zero_lt_succ, Nat.reduceSub, if_true, ite_tt, ite_ff, Bool.false_eq_true, if_false, in_str, lt_int, le_int, gt_int, ge_int, eq_int, ne_int, eq_bl, ne_bl, len_lst, len_tup, add_int, sub_int, sub_lst, sub_tup, tru_bl, recvM]
        cases List.contains [65, 66] c <;> rfl
      have hC : ((t.filterMap fun c => if List.contains [65, 66] c = true then some c else none).map fun _ => D.int 1).isEmpty = !(t.any fun c => kindC c == [82]) := by
        rw [fm_any (g := .int 1), any_congr fun c hc => (al_ab c (ht.al c hc)).2]
      have hC2 := plains_const (t.filterMap fun c => if List.contains [65, 66] c = true then some c else none)
      simp -implicitDefEqProofs only [rns_cons, rns_nil, sL_cons, sL_nil, eL_cons, eL_nil, rn, ev, evT, evs, evo, evq, evi, evC, bnd_ok, calm_ok, opt_some, nxt_nx, nxt_ret, nxt_brk, nxt_ct, ev_ok, fresh, bindT, bindTs, setSl, Option.map_some, Option.map_none, List.getElem?_cons_zero, List.getElem?_cons_succ, List.set_cons_zero, List.set_cons_succ, List.length_cons, List.length_nil, Nat.reduceAdd, Nat.reduceLT, Nat.zero_lt_succ, Nat.reduceSub, if_true, ite_tt, ite_ff, Bool.false_eq_true, if_false, in_str, lt_int, le_int, gt_int, ge_int, eq_int, ne_int, eq_bl, ne_bl, len_lst, len_tup, add_int, sub_int, sub_lst, sub_tup, tru_bl, recvM, ne_nil hC2, hC, Bool.not_not]
      exact ⟨by rw [Bool.true_and], (by first | exact True.intro | rfl | contradiction | assumption)⟩
  intro a0 μ3 h3
  obtain ⟨ha0, hμ3⟩ := h3
  subst ha0
  rw [hμ3]
  clear hμ3 μ3
  simp -implicitDefEqProofs only [rns_cons, rns_nil, sL_cons, sL_nil, eL_cons, eL_nil, rn, ev, evT, evs, evo, evq, evi, evC, bnd_ok, calm_ok, opt_some, nxt_nx, nxt_ret, nxt_brk, nxt_ct, ev_ok, fresh, bindT, bindTs, setSl, Option.map_some, Option.map_none, List.getElem?_cons_zero, List.getElem?_cons_succ, List.set_cons_zero, List.set_cons_succ, List.length_cons, List.length_nil, Nat.reduceAdd, Nat.reduceLT, Nat.zero_lt_succ, Nat.reduceSub, if_true, ite_tt, ite_ff, Bool.false_eq_true, if_false, in_str, lt_int, le_int, gt_int, ge_int, eq_int, ne_int, eq_bl, ne_bl, len_lst, len_tup, add_int, sub_int, sub_lst, sub_tup, tru_bl, recvM, beq_self_eq_true, Bool.not_true, len_str ht.line, hrg]
  simp only [ev_bnd, ev_calm]
  refine ev_mapR (fun k => .int ((jx (sorder (levels bg t)) k : Nat) : Int)) wOk_nil (fun k hk => ?_) ?_
  · rw [turnM_1 (by simp)]
    simp -implicitDefEqProofs only [rns_cons, rns_nil, sL_cons, sL_nil, eL_cons, eL_nil, rn, ev, evT, evs, evo, evq, evi, evC, bnd_ok, calm_ok, opt_some, nxt_nx, nxt_ret, nxt_brk, nxt_ct, ev_ok, fresh, bindT, bindTs, setSl, Option.map_some, Option.map_none, List.getElem?_cons_zero, List.getElem?_cons_succ, List.set_cons_zero, List.set_cons_succ, List.length_cons, List.length_nil, Nat.reduceAdd, Nat.reduceLT, Nat.zero_lt_succ, Nat.reduceSub, if_true, ite_tt, ite_ff, Bool.false_eq_true, if_false, in_str, lt_int, le_int, gt_int, ge_int, eq_int, ne_int, eq_bl, ne_bl, len_lst, len_tup, add_int, sub_int, sub_lst, sub_tup, tru_bl, recvM, f_place 7 t bg k _ hd2 ht hb (List.mem_range.mp hk)]
  simp -implicitDefEqProofs only [rns_cons, rns_nil, sL_cons, sL_nil, eL_cons, eL_nil, rn, ev, evT, evs, evo, evq, evi, evC, bnd_ok, calm_ok, opt_some, nxt_nx, nxt_ret, nxt_brk, nxt_ct, ev_ok, fresh, bindT, bindTs, setSl, Option.map_some, Option.map_none, List.getElem?_cons_zero, List.getElem?_cons_succ, List.set_cons_zero, List.set_cons_succ, List.length_cons, List.length_nil, Nat.reduceAdd, Nat.reduceLT, Nat.zero_lt_succ, Nat.reduceSub, if_true, ite_tt, ite_ff, Bool.false_eq_true, if_false, in_str, lt_int, le_int, gt_int, ge_int, eq_int, ne_int, eq_bl, ne_bl, len_lst, len_tup, add_int, sub_int, sub_lst, sub_tup, tru_bl, recvM, len_str ht.line, hrg]
  try simp only [ev_bnd, ev_calm]
  refine ev_mapR (fun k => .int ((jx (sorder (levels bg t)) k : Nat) : Int)) wOk_nil (fun k hk => ?_) ?_
  · have hko : k ∈ sorder (levels bg t) := hperm.mem_iff.mpr hk
    rw [turnM_1 (by simp)]
    simp -implicitDefEqProofs only [rns_cons, rns_nil, sL_cons, sL_nil, eL_cons, eL_nil, rn, ev, evT, evs, evo, evq, evi, evC, bnd_ok, calm_ok, opt_some, nxt_nx, nxt_ret, nxt_brk, nxt_ct, ev_ok, fresh, bindT, bindTs, setSl, Option.map_some, Option.map_none, List.getElem?_cons_zero, List.getElem?_cons_succ, List.set_cons_zero, List.set_cons_succ, List.length_cons, List.length_nil, Nat.reduceAdd, Nat.reduceLT, Nat.zero_lt_succ, Nat.reduceSub, if_true, ite_tt, ite_ff, Bool.false_eq_true, if_false, in_str, lt_int, le_int, gt_int, ge_int, eq_int, ne_int, eq_bl, ne_bl, len_lst, len_tup, add_int, sub_int, sub_lst, sub_tup, tru_bl, recvM, view, ix_lst hko]
  simp -implicitDefEqProofs only [rns_cons, rns_nil, sL_cons, sL_nil, eL_cons, eL_nil, rn, ev, evT, evs, evo, evq, evi, evC, bnd_ok, calm_ok, opt_some, nxt_nx, nxt_ret, nxt_brk, nxt_ct, ev_ok, fresh, bindT, bindTs, setSl, Option.map_some, Option.map_none, List.getElem?_cons_zero, List.getElem?_cons_succ, List.set_cons_zero, List.set_cons_succ, List.length_cons, List.length_nil, Nat.reduceAdd, Nat.reduceLT, Nat.zero_lt_succ, Nat.reduceSub, if_true, ite_tt, ite_ff, Bool.false_eq_true, if_false, in_str, lt_int, le_int, gt_int, ge_int, eq_int, ne_int, eq_bl, ne_bl, len_lst, len_tup, add_int, sub_int, sub_lst, sub_tup, tru_bl, recvM, ne_lst_self (plains_nat (f := jx (sorder (levels bg t))) (List.range t.length)), seq_lst]
  rw [ev_bnd]
  refine for_inv (fun k σ μ' => ∃ a c, σ = [some (.scr ns), some (.ref 0), some (.lst ((levels bg t).map .int)), some (.lst (intz (sorder (levels bg t)))), some (.lst (rowz (rowsAt (levels bg t) k))), none, none, none, none, a, none, none, none, none, some (.str t), some (.int bg), c, none, none, none, none, none, none, none, none] ∧ μ' = μ2) ⟨_, _, rfl, rfl⟩ (fun _ _ _ _ => rfl) ?_ ?_
  · rintro k x σ μ' hx ⟨a, c, rfl, hμe⟩
    rw [hμe]
    clear hμe μ'
    obtain ⟨y, hy, rfl⟩ := enum_at hx
    rw [List.getElem?_map] at hy
    obtain ⟨l, hl, rfl⟩ := Option.map_eq_some_iff.mp hy
    have hlD : (levels bg t).getD k 0 = l := by simp [List.getD, hl]
    have hkl : k < (levels bg t).length := (List.getElem?_eq_some_iff.mp hl).1
    rw [turn_2 (by simp) (by simp), Nat.zero_add]
    have hstep : rowsAt (levels bg t) (k + 1) = rstep (rowsAt (levels bg t) k) k l := by rw [← hlD]; rfl
    rw [hstep]
    have hRl := rowsAt_len (levels bg t) k
    generalize rowsAt (levels bg t) k = Q at *
    have hQ80 : Q.length < 16 := by omega
    have hL1 : ∀ v : D, (rowz Q).length + [v].length ≤ LINE := fun v => by rw [List.length_map]; unfold LINE; simp; omega
    have hL2 : ∀ v : D, (rowz Q).dropLast.length + [v].length ≤ LINE := fun v => by rw [List.length_dropLast, List.length_map]; unfold LINE; simp; omega
    simp -implicitDefEqProofs only [rns_cons, rns_nil, sL_cons, sL_nil, eL_cons, eL_nil, rn, ev, evT, evs, evo, evq, evi, evC, bnd_ok, calm_ok, opt_some, nxt_nx, nxt_ret, nxt_brk, nxt_ct, ev_ok, fresh, bindT, bindTs, setSl, Option.map_some, Option.map_none, List.getElem?_cons_zero, List.getElem?_cons_succ, List.set_cons_zero, List.set_cons_succ, List.length_cons, List.length_nil, Nat.reduceAdd, Nat.reduceLT, Nat.zero_lt_succ, Nat.reduceSub, if_true, ite_tt, ite_ff, Bool.false_eq_true, if_false, in_str, lt_int, le_int, gt_int, ge_int, eq_int, ne_int, eq_bl, ne_bl, len_lst, len_tup, add_int, sub_int, sub_lst, sub_tup, tru_bl, recvM, ne_nil (plains_rowz Q)]
    cases hq : Q.getLast? with
    | none =>
      have hQ : Q = [] := List.getLast?_eq_none_iff.mp hq
      subst hQ
      have e1 : (rowz []).isEmpty = true := rfl
      simp -implicitDefEqProofs only [rns_cons, rns_nil, sL_cons, sL_nil, eL_cons, eL_nil, rn, ev, evT, evs, evo, evq, evi, evC, bnd_ok, calm_ok, opt_some, nxt_nx, nxt_ret, nxt_brk, nxt_ct, ev_ok, fresh, bindT, bindTs, setSl, Option.map_some, Option.map_none, List.getElem?_cons_zero, List.getElem?_cons_succ, List.set_cons_zero, List.set_cons_succ, List.length_cons, List.length_nil, Nat.reduceAdd, Nat.reduceLT, Nat.zero_lt_succ, Nat.reduceSub, if_true, ite_tt, ite_ff, Bool.false_eq_true, if_false, in_str, lt_int, le_int, gt_int, ge_int, eq_int, ne_int, eq_bl, ne_bl, len_lst, len_tup, add_int, sub_int, sub_lst, sub_tup, tru_bl, recvM, e1, Bool.not_true, add_lst (hL1 _)]
      exact ⟨_, .inl rfl, _, _, (by first | exact True.intro | rfl | contradiction | assumption), (by first | exact True.intro | rfl | contradiction | assumption)⟩
    | some r =>
      have hne : Q ≠ [] := fun z => by rw [z] at hq; cases hq
      have e1 : (rowz Q).isEmpty = false := by cases Q with
        | nil => exact absurd rfl hne
        | cons _ _ => rfl
      have la : atD [D.int (r.1 : Int), D.int (r.2.1 : Int), D.int r.2.2] 2 = some (.int r.2.2) := rfl
      have l0 : atD [D.int (r.1 : Int), D.int (r.2.1 : Int), D.int r.2.2] 0 = some (.int (r.1 : Int)) := rfl
      simp -implicitDefEqProofs only [rns_cons, rns_nil, sL_cons, sL_nil, eL_cons, eL_nil, rn, ev, evT, evs, evo, evq, evi, evC, bnd_ok, calm_ok, opt_some, nxt_nx, nxt_ret, nxt_brk, nxt_ct, ev_ok, fresh, bindT, bindTs, setSl, Option.map_some, Option.map_none, List.getElem?_cons_zero, List.getElem?_cons_succ, List.set_cons_zero, List.set_cons_succ, List.length_cons, List.length_nil, Nat.reduceAdd, Nat.reduceLT, Nat.zero_lt_succ, Nat.reduceSub, if_true, ite_tt, ite_ff, Bool.false_eq_true, if_false, in_str, lt_int, le_int, gt_int, ge_int, eq_int, ne_int, eq_bl, ne_bl, len_lst, len_tup, add_int, sub_int, sub_lst, sub_tup, tru_bl, recvM, e1, Bool.not_false, last_row (μ := μ2) hq, la]
      by_cases h2 : r.2.2 = l
      · have g : (r.2.2 == l) = true := beq_iff_eq.mpr h2
        have hs : rstep Q k l = Q.dropLast ++ [(r.1, k + 1, l)] := by unfold rstep; rw [hq]; simp only [h2, if_true]
        simp -implicitDefEqProofs only [rns_cons, rns_nil, sL_cons, sL_nil, eL_cons, eL_nil, rn, ev, evT, evs, evo, evq, evi, evC, bnd_ok, calm_ok, opt_some, nxt_nx, nxt_ret, nxt_brk, nxt_ct, ev_ok, fresh, bindT, bindTs, setSl, Option.map_some, Option.map_none, List.getElem?_cons_zero, List.getElem?_cons_succ, List.set_cons_zero, List.set_cons_succ, List.length_cons, List.length_nil, Nat.reduceAdd, Nat.reduceLT, Nat.zero_lt_succ, Nat.reduceSub, if_true, ite_tt, ite_ff, Bool.false_eq_true, if_false, in_str, lt_int, le_int, gt_int, ge_int, eq_int, ne_int, eq_bl, ne_bl, len_lst, len_tup, add_int, sub_int, sub_lst, sub_tup, tru_bl, recvM, g, evo, slc_init, last_row (μ := μ2) hq, l0, add_lst (hL2 _)]
        rw [hs, show (rowz Q).dropLast ++ [D.tup false [.int (r.1 : Int), .int ((k : Int) + 1), .int l]] = rowz (Q.dropLast ++ [(r.1, k + 1, l)]) by rw [← List.map_dropLast]; simp [rowz]]
        exact ⟨_, .inl rfl, _, _, (by first | exact True.intro | rfl | contradiction | assumption), (by first | exact True.intro | rfl | contradiction | assumption)⟩
      · have g : (r.2.2 == l) = false := beq_eq_false_iff_ne.mpr h2
        have hs : rstep Q k l = Q ++ [(k, k + 1, l)] := by unfold rstep; rw [hq]; simp only [h2, if_false]
        simp -implicitDefEqProofs only [rns_cons, rns_nil, sL_cons, sL_nil, eL_cons, eL_nil, rn, ev, evT, evs, evo, evq, evi, evC, bnd_ok, calm_ok, opt_some, nxt_nx, nxt_ret, nxt_brk, nxt_ct, ev_ok, fresh, bindT, bindTs, setSl, Option.map_some, Option.map_none, List.getElem?_cons_zero, List.getElem?_cons_succ, List.set_cons_zero, List.set_cons_succ, List.length_cons, List.length_nil, Nat.reduceAdd, Nat.reduceLT, Nat.zero_lt_succ, Nat.reduceSub, if_true, ite_tt, ite_ff, Bool.false_eq_true, if_false, in_str, lt_int, le_int, gt_int, ge_int, eq_int, ne_int, eq_bl, ne_bl, len_lst, len_tup, add_int, sub_int, sub_lst, sub_tup, tru_bl, recvM, g, add_lst (hL1 _)]
        rw [hs, show rowz Q ++ [D.tup false [.int (k : Int), .int ((k : Int) + 1), .int l]] = rowz (Q ++ [(k, k + 1, l)]) by simp [rowz]]
        exact ⟨_, .inl rfl, _, _, (by first | exact True.intro | rfl | contradiction | assumption), (by first | exact True.intro | rfl | contradiction | assumption)⟩
  rintro σ μ' ⟨a9, c16, rfl, hμe⟩
  rw [hμe]
  clear hμe μ'
  rw [show (enumL 0 ((levels bg t).map D.int)).length = t.length by rw [enum_len, List.length_map, hlen]]
  have hRl : (rowsAt (levels bg t) t.length).length ≤ 80 := Nat.le_trans (rowsAt_len _ _) ht.len
  have hRv : ∀ x ∈ (rowsAt (levels bg t) t.length).map (fun r : Row => r.2.2), (0 : Int) ≤ x ∧ x ≤ 2 := fun x hx => by
    obtain ⟨r, hr, rfl⟩ := List.mem_map.mp hx
    exact hlv _ (rowsAt_lv (by rw [hlen]; exact Nat.le_refl _) r hr)
  have hruns := fun μ hμ => f_runs 7 t bg μ hμ ht hb _ rfl
  rw [sorder_eq hRv] at hruns
  generalize rowsAt (levels bg t) t.length = R at *
  simp -implicitDefEqProofs only [rns_cons, rns_nil, sL_cons, sL_nil, eL_cons, eL_nil, rn, ev, evT, evs, evo, evq, evi, evC, bnd_ok, calm_ok, opt_some, nxt_nx, nxt_ret, nxt_brk, nxt_ct, ev_ok, fresh, bindT, bindTs, setSl, Option.map_some, Option.map_none, List.getElem?_cons_zero, List.getElem?_cons_succ, List.set_cons_zero, List.set_cons_succ, List.length_cons, List.length_nil, Nat.reduceAdd, Nat.reduceLT, Nat.zero_lt_succ, Nat.reduceSub, if_true, ite_tt, ite_ff, Bool.false_eq_true, if_false, in_str, lt_int, le_int, gt_int, ge_int, eq_int, ne_int, eq_bl, ne_bl, len_lst, len_tup, add_int, sub_int, sub_lst, sub_tup, tru_bl, recvM, seq_lst]
  simp only [ev_bnd, ev_calm]
  refine ev_mapR (h := rowD) (fun r => .int r.2.2) wOk_nil (fun r _ => ?_) ?_
  · have la : atD [D.int (r.1 : Int), D.int (r.2.1 : Int), D.int r.2.2] 2 = some (.int r.2.2) := rfl
    rw [turnM_1 (by simp)]
    simp -implicitDefEqProofs only [rns_cons, rns_nil, sL_cons, sL_nil, eL_cons, eL_nil, rn, ev, evT, evs, evo, evq, evi, evC, bnd_ok, calm_ok, opt_some, nxt_nx, nxt_ret, nxt_brk, nxt_ct, ev_ok, fresh, bindT, bindTs, setSl, Option.map_some, Option.map_none, List.getElem?_cons_zero, List.getElem?_cons_succ, List.set_cons_zero, List.set_cons_succ, List.length_cons, List.length_nil, Nat.reduceAdd, Nat.reduceLT, Nat.zero_lt_succ, Nat.reduceSub, if_true, ite_tt, ite_ff, Bool.false_eq_true, if_false, in_str, lt_int, le_int, gt_int, ge_int, eq_int, ne_int, eq_bl, ne_bl, len_lst, len_tup, add_int, sub_int, sub_lst, sub_tup, tru_bl, recvM, la]
  rw [show (R.map fun r => D.int r.2.2) = (R.map fun r => r.2.2).map .int by rw [List.map_map]; rfl]
  simp -implicitDefEqProofs only [rns_cons, rns_nil, sL_cons, sL_nil, eL_cons, eL_nil, rn, ev, evT, evs, evo, evq, evi, evC, bnd_ok, calm_ok, opt_some, nxt_nx, nxt_ret, nxt_brk, nxt_ct, ev_ok, fresh, bindT, bindTs, setSl, Option.map_some, Option.map_none, List.getElem?_cons_zero, List.getElem?_cons_succ, List.set_cons_zero, List.set_cons_succ, List.length_cons, List.length_nil, Nat.reduceAdd, Nat.reduceLT, Nat.zero_lt_succ, Nat.reduceSub, if_true, ite_tt, ite_ff, Bool.false_eq_true, if_false, in_str, lt_int, le_int, gt_int, ge_int, eq_int, ne_int, eq_bl, ne_bl, len_lst, len_tup, add_int, sub_int, sub_lst, sub_tup, tru_bl, recvM, f_lorder 10 (R.map fun r => r.2.2) μ2 hd2 (by rw [List.length_map]; exact hRl), hruns μ2 hd2, ls_tup, seq_lst]
  simp only [ev_bnd, ev_calm]
  refine ev_mapR (fun k => rowD (R.getD k (0, 0, 0))) wOk_nil (fun k hk => ?_) ?_
  · have hkl : k < R.length := by have := lord_mem hk; rwa [List.length_map] at this
    have a1 : atD (rowz R) (k : Int) = some (rowD (R.getD k (0, 0, 0))) := atD_some (by
      rw [List.getElem?_map, List.getElem?_eq_getElem hkl]
      simp [List.getD, List.getElem?_eq_getElem hkl])
    rw [turnM_1 (by simp)]
    simp -implicitDefEqProofs only [rns_cons, rns_nil, sL_cons, sL_nil, eL_cons, eL_nil, rn, ev, evT, evs, evo, evq, evi, evC, bnd_ok, calm_ok, opt_some, nxt_nx, nxt_ret, nxt_brk, nxt_ct, ev_ok, fresh, bindT, bindTs, setSl, Option.map_some, Option.map_none, List.getElem?_cons_zero, List.getElem?_cons_succ, List.set_cons_zero, List.set_cons_succ, List.length_cons, List.length_nil, Nat.reduceAdd, Nat.reduceLT, Nat.zero_lt_succ, Nat.reduceSub, if_true, ite_tt, ite_ff, Bool.false_eq_true, if_false, in_str, lt_int, le_int, gt_int, ge_int, eq_int, ne_int, eq_bl, ne_bl, len_lst, len_tup, add_int, sub_int, sub_lst, sub_tup, tru_bl, recvM, a1]
  simp -implicitDefEqProofs only [rns_cons, rns_nil, sL_cons, sL_nil, eL_cons, eL_nil, rn, ev, evT, evs, evo, evq, evi, evC, bnd_ok, calm_ok, opt_some, nxt_nx, nxt_ret, nxt_brk, nxt_ct, ev_ok, fresh, bindT, bindTs, setSl, Option.map_some, Option.map_none, List.getElem?_cons_zero, List.getElem?_cons_succ, List.set_cons_zero, List.set_cons_succ, List.length_cons, List.length_nil, Nat.reduceAdd, Nat.reduceLT, Nat.zero_lt_succ, Nat.reduceSub, if_true, ite_tt, ite_ff, Bool.false_eq_true, if_false, in_str, lt_int, le_int, gt_int, ge_int, eq_int, ne_int, eq_bl, ne_bl, len_lst, len_tup, add_int, sub_int, sub_lst, sub_tup, tru_bl, recvM, ne_lst_self (plains_rowf (f := fun k => R.getD k (0, 0, 0)) (lorder (R.map fun r => r.2.2)))]
  simp -implicitDefEqProofs only [rns_cons, rns_nil, sL_cons, sL_nil, eL_cons, eL_nil, rn, ev, evT, evs, evo, evq, evi, evC, bnd_ok, calm_ok, opt_some, nxt_nx, nxt_ret, nxt_brk, nxt_ct, ev_ok, fresh, bindT, bindTs, setSl, Option.map_some, Option.map_none, List.getElem?_cons_zero, List.getElem?_cons_succ, List.set_cons_zero, List.set_cons_succ, List.length_cons, List.length_nil, Nat.reduceAdd, Nat.reduceLT, Nat.zero_lt_succ, Nat.reduceSub, if_true, ite_tt, ite_ff, Bool.false_eq_true, if_false, in_str, lt_int, le_int, gt_int, ge_int, eq_int, ne_int, eq_bl, ne_bl, len_lst, len_tup, add_int, sub_int, sub_lst, sub_tup, tru_bl, recvM, len_str ht.line]
  simp only [ev_bnd]
  refine (f_roll 10 μ2 hm2 ((t.length : Int) + 1) (by omega) (by omega)).mono fun d μ3 ⟨fi, hd, hfi, hm3⟩ => ?_
  subst hd
  have hmany : (t.length : Int) - (fi : Int) + 1 = ((t.length - fi + 1 : Nat) : Int) := by omega
  simp -implicitDefEqProofs only [rns_cons, rns_nil, sL_cons, sL_nil, eL_cons, eL_nil, rn, ev, evT, evs, evo, evq, evi, evC, bnd_ok, calm_ok, opt_some, nxt_nx, nxt_ret, nxt_brk, nxt_ct, ev_ok, fresh, bindT, bindTs, setSl, Option.map_some, Option.map_none, List.getElem?_cons_zero, List.getElem?_cons_succ, List.set_cons_zero, List.set_cons_succ, List.length_cons, List.length_nil, Nat.reduceAdd, Nat.reduceLT, Nat.zero_lt_succ, Nat.reduceSub, if_true, ite_tt, ite_ff, Bool.false_eq_true, if_false, in_str, lt_int, le_int, gt_int, ge_int, eq_int, ne_int, eq_bl, ne_bl, len_lst, len_tup, add_int, sub_int, sub_lst, sub_tup, tru_bl, recvM, len_str ht.line]
  simp only [ev_bnd]
  refine (f_roll 10 μ3 hm3 ((t.length : Int) - (fi : Int) + 1) (by omega) (by omega)).mono fun d μ4 ⟨ro, hd, hro, hm4⟩ => ?_
  subst hd
  have hla : (fi : Int) + (ro : Int) = ((fi + ro : Nat) : Int) := by omega
  have hlan : fi + ro ≤ t.length := by omega
  have hfl : fi ≤ fi + ro := by omega
  generalize fi + ro = la at hla hlan hfl
  have hd4 := hm4.dry
  have hb2 := beginP_01 t
  have hso2 : sorder (levels (beginP t) t) = lorder (levels (beginP t) t) := sorder_eq (levels_le hb2 t)
  have hlen2 := levels_len (beginP t) t
  have hl802 : (levels (beginP t) t).length ≤ 80 := by rw [hlen2]; exact ht.len
  have hperm2 : (sorder (levels (beginP t) t)).Perm (List.range t.length) := by rw [← hlen2]; exact sord_perm _ _
  have hmk := f_marked 7 t fi la μ4 hd4 ht hfl hlan
  simp -implicitDefEqProofs only [rns_cons, rns_nil, sL_cons, sL_nil, eL_cons, eL_nil, rn, ev, evT, evs, evo, evq, evi, evC, bnd_ok, calm_ok, opt_some, nxt_nx, nxt_ret, nxt_brk, nxt_ct, ev_ok, fresh, bindT, bindTs, setSl, Option.map_some, Option.map_none, List.getElem?_cons_zero, List.getElem?_cons_succ, List.set_cons_zero, List.set_cons_succ, List.length_cons, List.length_nil, Nat.reduceAdd, Nat.reduceLT, Nat.zero_lt_succ, Nat.reduceSub, if_true, ite_tt, ite_ff, Bool.false_eq_true, if_false, in_str, lt_int, le_int, gt_int, ge_int, eq_int, ne_int, eq_bl, ne_bl, len_lst, len_tup, add_int, sub_int, sub_lst, sub_tup, tru_bl, recvM, hla, f_lbegin 9 t μ4 hd4 ht, f_llevels 9 t (beginP t) μ4 hd4 ht hb2, f_lorder 10 (levels (beginP t) t) μ4 hd4 hl802, ← hso2, seq_lst]
  have hol2 : (sorder (levels (beginP t) t)).length = t.length := by rw [ord_len, hlen2]
  generalize sorder (levels (beginP t) t) = o at *
  rw [enum_intz]
  simp only [ev_bnd, ev_calm]
  refine ev_mapF (fun k => if isSpot o fi la k = true then some k else none) (fun k => .int (k : Int)) wOk_nil (fun k _ => ?_) ?_
  · rw [turnM_2 (by simp) (by simp)]
    simp -implicitDefEqProofs only [rns_cons, rns_nil, sL_cons, sL_nil, eL_cons, eL_nil, rn, ev, evT, evs, evo, evq, evi, evC, bnd_ok, calm_ok, opt_some, nxt_nx, nxt_ret, nxt_brk, nxt_ct, ev_ok, fresh, bindT, bindTs, setSl, Option.map_some, Option.map_none, List.getElem?_cons_zero, List.getElem?_cons_succ, List.set_cons_zero, List.set_cons_succ, List.length_cons, List.length_nil, Nat.reduceAdd, Nat.reduceLT, Nat.zero_lt_succ, Nat.reduceSub, if_true, ite_tt, ite_ff, Bool.false_eq_true, if_false, in_str, lt_int, le_int, gt_int, ge_int, eq_int, ne_int, eq_bl, ne_bl, len_lst, len_tup, add_int, sub_int, sub_lst, sub_tup, tru_bl, recvM]
    by_cases c1 : fi ≤ o.getD k 0
    · by_cases c2 : o.getD k 0 < la
      · have hs : isSpot o fi la k = true := by unfold isSpot; rw [decide_eq_true c1, decide_eq_true c2]; rfl
        simp -implicitDefEqProofs only [rns_cons, rns_nil, sL_cons, sL_nil, eL_cons, eL_nil, rn, ev, evT, evs, evo, evq, evi, evC, bnd_ok, calm_ok, opt_some, nxt_nx, nxt_ret, nxt_brk, nxt_ct, ev_ok, fresh, bindT, bindTs, setSl, Option.map_some, Option.map_none, List.getElem?_cons_zero, List.getElem?_cons_succ, List.set_cons_zero, List.set_cons_succ, List.length_cons, List.length_nil, Nat.reduceAdd, Nat.reduceLT, Nat.zero_lt_succ, Nat.reduceSub, if_true, ite_tt, ite_ff, Bool.false_eq_true, if_false, in_str, lt_int, le_int, gt_int, ge_int, eq_int, ne_int, eq_bl, ne_bl, len_lst, len_tup, add_int, sub_int, sub_lst, sub_tup, tru_bl, recvM, decide_eq_true (show (fi : Int) ≤ ((o.getD k 0 : Nat) : Int) by omega), decide_eq_true (show ((o.getD k 0 : Nat) : Int) < (la : Int) by omega), hs]
      · have hs : isSpot o fi la k = false := by unfold isSpot; rw [decide_eq_true c1, decide_eq_false c2]; rfl
        simp -implicitDefEqProofs only [rns_cons, rns_nil, sL_cons, sL_nil, eL_cons, eL_nil, rn, ev, evT, evs, evo, evq, evi, evC, bnd_ok, calm_ok, opt_some, nxt_nx, nxt_ret, nxt_brk, nxt_ct, ev_ok, fresh, bindT, bindTs, setSl, Option.map_some, Option.map_none, List.getElem?_cons_zero, List.getElem?_cons_succ, List.set_cons_zero, List.set_cons_succ, List.length_cons, List.length_nil, Nat.reduceAdd, Nat.reduceLT, Nat.zero_lt_succ, Nat.reduceSub, if_true, ite_tt, ite_ff, Bool.false_eq_true, if_false, in_str, lt_int, le_int, gt_int, ge_int, eq_int, ne_int, eq_bl, ne_bl, len_lst, len_tup, add_int, sub_int, sub_lst, sub_tup, tru_bl, recvM, decide_eq_true (show (fi : Int) ≤ ((o.getD k 0 : Nat) : Int) by omega), decide_eq_false (show ¬ ((o.getD k 0 : Nat) : Int) < (la : Int) by omega), hs]
    · have hs : isSpot o fi la k = false := by unfold isSpot; rw [decide_eq_false c1]; rfl
      simp -implicitDefEqProofs only [rns_cons, rns_nil, sL_cons, sL_nil, eL_cons, eL_nil, rn, ev, evT, evs, evo, evq, evi, evC, bnd_ok, calm_ok, opt_some, nxt_nx, nxt_ret, nxt_brk, nxt_ct, ev_ok, fresh, bindT, bindTs, setSl, Option.map_some, Option.map_none, List.getElem?_cons_zero, List.getElem?_cons_succ, List.set_cons_zero, List.set_cons_succ, List.length_cons, List.length_nil, Nat.reduceAdd, Nat.reduceLT, Nat.zero_lt_succ, Nat.reduceSub, if_true, ite_tt, ite_ff, Bool.false_eq_true, if_false, in_str, lt_int, le_int, gt_int, ge_int, eq_int, ne_int, eq_bl, ne_bl, len_lst, len_tup, add_int, sub_int, sub_lst, sub_tup, tru_bl, recvM, decide_eq_false (show ¬ (fi : Int) ≤ ((o.getD k 0 : Nat) : Int) by omega), hs]
  have hsp : ((List.range o.length).filterMap fun k => if isSpot o fi la k = true then some k else none) = spots o fi la t.length := by
    have := fm_range (q := isSpot o fi la) (a := 0) (List.range o.length)
    simp only [Nat.zero_add] at this
    rw [this, hol2, List.map_id']
    rfl
  rw [hsp]
  simp -implicitDefEqProofs only [rns_cons, rns_nil, sL_cons, sL_nil, eL_cons, eL_nil, rn, ev, evT, evs, evo, evq, evi, evC, bnd_ok, calm_ok, opt_some, nxt_nx, nxt_ret, nxt_brk, nxt_ct, ev_ok, fresh, bindT, bindTs, setSl, Option.map_some, Option.map_none, List.getElem?_cons_zero, List.getElem?_cons_succ, List.set_cons_zero, List.set_cons_succ, List.length_cons, List.length_nil, Nat.reduceAdd, Nat.reduceLT, Nat.zero_lt_succ, Nat.reduceSub, if_true, ite_tt, ite_ff, Bool.false_eq_true, if_false, in_str, lt_int, le_int, gt_int, ge_int, eq_int, ne_int, eq_bl, ne_bl, len_lst, len_tup, add_int, sub_int, sub_lst, sub_tup, tru_bl, recvM, seq_lst]
  rw [ev_bnd]
  have hsl : (spots o fi la t.length).length ≤ 15 := by
    unfold spots
    have := List.length_filter_le (isSpot o fi la) (List.range t.length)
    rw [List.length_range] at this
    omega
  have hmarks : marks o fi la t.length = (spots o fi la t.length).foldl mstep [] := rfl
  have hsum := marks_sum hperm2 hfl hlan
  rw [hmarks] at hmk hsum
  generalize spots o fi la t.length = sp at *
  refine for_inv (fun k σ μ' => ∃ a, σ = [some (.scr ns), some (.ref 0), some (.lst ((levels bg t).map .int)), some (.lst (intz (sorder (levels bg t)))), some (.lst (rowz R)), some (.lst (intz (lorder (R.map fun r => r.2.2)))), some (.int (fi : Int)), some (.int (la : Int)), some (.lst (intz o)), a, none, none, none, none, some (.str t), some (.int bg), c16, some (.lst (intz sp)), some (.lst (pairz ((sp.take k).foldl mstep []))), none, none, none, none, none, none] ∧ μ' = μ4) ⟨_, rfl, rfl⟩ (fun _ _ _ _ => rfl) ?_ ?_
  · rintro k x σ μ' hx ⟨a, rfl, hμe⟩
    rw [hμe]
    clear hμe μ'
    rw [List.getElem?_map] at hx
    obtain ⟨p, hp, rfl⟩ := Option.map_eq_some_iff.mp hx
    have hkl : k < sp.length := (List.getElem?_eq_some_iff.mp hp).1
    rw [turn_1 (by simp), take_one hp, List.foldl_append]
    have hQ15 : ((sp.take k).foldl mstep []).length ≤ 15 := by
      have := fold_len (sp.take k) []
      rw [List.length_take] at this
      simp at this
      omega
    simp only [List.foldl_cons, List.foldl_nil]
    generalize (sp.take k).foldl mstep [] = Q at *
    have hL1 : ∀ v : D, (pairz Q).length + [v].length ≤ LINE := fun v => by rw [List.length_map]; unfold LINE; simp; omega
    have hL2 : ∀ v : D, (pairz Q).dropLast.length + [v].length ≤ LINE := fun v => by rw [List.length_dropLast, List.length_map]; unfold LINE; simp; omega
    simp -implicitDefEqProofs only [rns_cons, rns_nil, sL_cons, sL_nil, eL_cons, eL_nil, rn, ev, evT, evs, evo, evq, evi, evC, bnd_ok, calm_ok, opt_some, nxt_nx, nxt_ret, nxt_brk, nxt_ct, ev_ok, fresh, bindT, bindTs, setSl, Option.map_some, Option.map_none, List.getElem?_cons_zero, List.getElem?_cons_succ, List.set_cons_zero, List.set_cons_succ, List.length_cons, List.length_nil, Nat.reduceAdd, Nat.reduceLT, Nat.zero_lt_succ, Nat.reduceSub, if_true, ite_tt, ite_ff, Bool.false_eq_true, if_false, in_str, lt_int, le_int, gt_int, ge_int, eq_int, ne_int, eq_bl, ne_bl, len_lst, len_tup, add_int, sub_int, sub_lst, sub_tup, tru_bl, recvM, ne_nil (plains_pairz Q)]
    cases hq : Q.getLast? with
    | none =>
      have hQ : Q = [] := List.getLast?_eq_none_iff.mp hq
      subst hQ
      have e1 : (pairz []).isEmpty = true := rfl
      simp -implicitDefEqProofs only [rns_cons, rns_nil, sL_cons, sL_nil, eL_cons, eL_nil, rn, ev, evT, evs, evo, evq, evi, evC, bnd_ok, calm_ok, opt_some, nxt_nx, nxt_ret, nxt_brk, nxt_ct, ev_ok, fresh, bindT, bindTs, setSl, Option.map_some, Option.map_none, List.getElem?_cons_zero, List.getElem?_cons_succ, List.set_cons_zero, List.set_cons_succ, List.length_cons, List.length_nil, Nat.reduceAdd, Nat.reduceLT, Nat.zero_lt_succ, Nat.reduceSub, if_true, ite_tt, ite_ff, Bool.false_eq_true, if_false, in_str, lt_int, le_int, gt_int, ge_int, eq_int, ne_int, eq_bl, ne_bl, len_lst, len_tup, add_int, sub_int, sub_lst, sub_tup, tru_bl, recvM, e1, Bool.not_true, add_lst (hL1 _)]
      exact ⟨_, .inl rfl, _, (by first | exact True.intro | rfl | contradiction | assumption), (by first | exact True.intro | rfl | contradiction | assumption)⟩
    | some r =>
      have e1 : (pairz Q).isEmpty = false := by cases Q with
        | nil => cases hq
        | cons _ _ => rfl
      have la' : atD [D.int (r.1 : Int), D.int (r.2 : Int)] 1 = some (.int (r.2 : Int)) := rfl
      have l0 : atD [D.int (r.1 : Int), D.int (r.2 : Int)] 0 = some (.int (r.1 : Int)) := rfl
      simp -implicitDefEqProofs only [rns_cons, rns_nil, sL_cons, sL_nil, eL_cons, eL_nil, rn, ev, evT, evs, evo, evq, evi, evC, bnd_ok, calm_ok, opt_some, nxt_nx, nxt_ret, nxt_brk, nxt_ct, ev_ok, fresh, bindT, bindTs, setSl, Option.map_some, Option.map_none, List.getElem?_cons_zero, List.getElem?_cons_succ, List.set_cons_zero, List.set_cons_succ, List.length_cons, List.length_nil, Nat.reduceAdd, Nat.reduceLT, Nat.zero_lt_succ, Nat.reduceSub, if_true, ite_tt, ite_ff, Bool.false_eq_true, if_false, in_str, lt_int, le_int, gt_int, ge_int, eq_int, ne_int, eq_bl, ne_bl, len_lst, len_tup, add_int, sub_int, sub_lst, sub_tup, tru_bl, recvM, e1, Bool.not_false, last_pair hq, la']
      by_cases h2 : r.2 = p
      · have g : (((r.2 : Nat) : Int) == (p : Int)) = true := beq_iff_eq.mpr (by omega)
        have hs : mstep Q p = Q.dropLast ++ [(r.1, p + 1)] := by unfold mstep; rw [hq]; simp only [h2, if_true]
        simp -implicitDefEqProofs only [rns_cons, rns_nil, sL_cons, sL_nil, eL_cons, eL_nil, rn, ev, evT, evs, evo, evq, evi, evC, bnd_ok, calm_ok, opt_some, nxt_nx, nxt_ret, nxt_brk, nxt_ct, ev_ok, fresh, bindT, bindTs, setSl, Option.map_some, Option.map_none, List.getElem?_cons_zero, List.getElem?_cons_succ, List.set_cons_zero, List.set_cons_succ, List.length_cons, List.length_nil, Nat.reduceAdd, Nat.reduceLT, Nat.zero_lt_succ, Nat.reduceSub, if_true, ite_tt, ite_ff, Bool.false_eq_true, if_false, in_str, lt_int, le_int, gt_int, ge_int, eq_int, ne_int, eq_bl, ne_bl, len_lst, len_tup, add_int, sub_int, sub_lst, sub_tup, tru_bl, recvM, g, evo, slc_init, last_pair hq, l0, add_lst (hL2 _)]
        rw [hs, show (pairz Q).dropLast ++ [D.tup false [.int (r.1 : Int), .int ((p : Int) + 1)]] = pairz (Q.dropLast ++ [(r.1, p + 1)]) by rw [← List.map_dropLast]; simp [pairz]]
        exact ⟨_, .inl rfl, _, (by first | exact True.intro | rfl | contradiction | assumption), (by first | exact True.intro | rfl | contradiction | assumption)⟩
      · have g : (((r.2 : Nat) : Int) == (p : Int)) = false := beq_eq_false_iff_ne.mpr (by omega)
        have hs : mstep Q p = Q ++ [(p, p + 1)] := by unfold mstep; rw [hq]; simp only [h2, if_false]
        simp -implicitDefEqProofs only [rns_cons, rns_nil, sL_cons, sL_nil, eL_cons, eL_nil, rn, ev, evT, evs, evo, evq, evi, evC, bnd_ok, calm_ok, opt_some, nxt_nx, nxt_ret, nxt_brk, nxt_ct, ev_ok, fresh, bindT, bindTs, setSl, Option.map_some, Option.map_none, List.getElem?_cons_zero, List.getElem?_cons_succ, List.set_cons_zero, List.set_cons_succ, List.length_cons, List.length_nil, Nat.reduceAdd, Nat.reduceLT, Nat.zero_lt_succ, Nat.reduceSub, if_true, ite_tt, ite_ff, Bool.false_eq_true, if_false, in_str, lt_int, le_int, gt_int, ge_int, eq_int, ne_int, eq_bl, ne_bl, len_lst, len_tup, add_int, sub_int, sub_lst, sub_tup, tru_bl, recvM, g, add_lst (hL1 _)]
        rw [hs, show pairz Q ++ [D.tup false [.int (p : Int), .int ((p : Int) + 1)]] = pairz (Q ++ [(p, p + 1)]) by simp [pairz]]
        exact ⟨_, .inl rfl, _, (by first | exact True.intro | rfl | contradiction | assumption), (by first | exact True.intro | rfl | contradiction | assumption)⟩
  rintro σ μ' ⟨a9', rfl, hμe⟩
  rw [hμe]
  clear hμe μ'
  rw [show (List.map (fun (k : Nat) => D.int (k : Int)) sp).length = sp.length by rw [List.length_map], List.take_length]
  generalize sp.foldl mstep [] = DU at *
  simp -implicitDefEqProofs only [rns_cons, rns_nil, sL_cons, sL_nil, eL_cons, eL_nil, rn, ev, evT, evs, evo, evq, evi, evC, bnd_ok, calm_ok, opt_some, nxt_nx, nxt_ret, nxt_brk, nxt_ct, ev_ok, fresh, bindT, bindTs, setSl, Option.map_some, Option.map_none, List.getElem?_cons_zero, List.getElem?_cons_succ, List.set_cons_zero, List.set_cons_succ, List.length_cons, List.length_nil, Nat.reduceAdd, Nat.reduceLT, Nat.zero_lt_succ, Nat.reduceSub, if_true, ite_tt, ite_ff, Bool.false_eq_true, if_false, in_str, lt_int, le_int, gt_int, ge_int, eq_int, ne_int, eq_bl, ne_bl, len_lst, len_tup, add_int, sub_int, sub_lst, sub_tup, tru_bl, recvM, hmk, ls_tup, ne_lst_self (plains_pairz DU), seq_lst]
  simp only [ev_bnd, ev_calm]
  refine ev_mapR (h := pairD) (fun r => .int ((r.2 : Int) - (r.1 : Int))) wOk_nil (fun r _ => ?_) ?_
  · rw [turnM_2 (by simp) (by simp)]
    simp -implicitDefEqProofs only [rns_cons, rns_nil, sL_cons, sL_nil, eL_cons, eL_nil, rn, ev, evT, evs, evo, evq, evi, evC, bnd_ok, calm_ok, opt_some, nxt_nx, nxt_ret, nxt_brk, nxt_ct, ev_ok, fresh, bindT, bindTs, setSl, Option.map_some, Option.map_none, List.getElem?_cons_zero, List.getElem?_cons_succ, List.set_cons_zero, List.set_cons_succ, List.length_cons, List.length_nil, Nat.reduceAdd, Nat.reduceLT, Nat.zero_lt_succ, Nat.reduceSub, if_true, ite_tt, ite_ff, Bool.false_eq_true, if_false, in_str, lt_int, le_int, gt_int, ge_int, eq_int, ne_int, eq_bl, ne_bl, len_lst, len_tup, add_int, sub_int, sub_lst, sub_tup, tru_bl, recvM]
  rw [show (DU.map fun r => D.int ((r.2 : Int) - (r.1 : Int))) = (DU.map fun r => ((r.2 : Int) - (r.1 : Int))).map .int by rw [List.map_map]; rfl]
  have hsm : bltM .sum μ4 [.lst ((DU.map fun r => ((r.2 : Int) - (r.1 : Int))).map .int)] = some (.int ((la : Int) - (fi : Int))) := by
    have e : bltM .sum μ4 [.lst ((DU.map fun r => ((r.2 : Int) - (r.1 : Int))).map .int)] = (toInts ((DU.map fun r => ((r.2 : Int) - (r.1 : Int))).map .int)).map fun ns => .int ns.sum := rfl
    rw [e, toInts_map]
    show some (D.int (sumP DU)) = _
    rw [hsum]
  simp -implicitDefEqProofs only [rns_cons, rns_nil, sL_cons, sL_nil, eL_cons, eL_nil, rn, ev, evT, evs, evo, evq, evi, evC, bnd_ok, calm_ok, opt_some, nxt_nx, nxt_ret, nxt_brk, nxt_ct, ev_ok, fresh, bindT, bindTs, setSl, Option.map_some, Option.map_none, List.getElem?_cons_zero, List.getElem?_cons_succ, List.set_cons_zero, List.set_cons_succ, List.length_cons, List.length_nil, Nat.reduceAdd, Nat.reduceLT, Nat.zero_lt_succ, Nat.reduceSub, if_true, ite_tt, ite_ff, Bool.false_eq_true, if_false, in_str, lt_int, le_int, gt_int, ge_int, eq_int, ne_int, eq_bl, ne_bl, len_lst, len_tup, add_int, sub_int, sub_lst, sub_tup, tru_bl, recvM, hsm, beq_self_eq_true, Bool.not_true]
  simp only [ev_bnd, ev_calm]
  refine (f_roll 10 μ4 hm4 4 (by omega) (by omega)).mono fun d μ5 ⟨r4, hd, hr4, hm5⟩ => ?_
  subst hd
  simp -implicitDefEqProofs only [rns_cons, rns_nil, sL_cons, sL_nil, eL_cons, eL_nil, rn, ev, evT, evs, evo, evq, evi, evC, bnd_ok, calm_ok, opt_some, nxt_nx, nxt_ret, nxt_brk, nxt_ct, ev_ok, fresh, bindT, bindTs, setSl, Option.map_some, Option.map_none, List.getElem?_cons_zero, List.getElem?_cons_succ, List.set_cons_zero, List.set_cons_succ, List.length_cons, List.length_nil, Nat.reduceAdd, Nat.reduceLT, Nat.zero_lt_succ, Nat.reduceSub, if_true, ite_tt, ite_ff, Bool.false_eq_true, if_false, in_str, lt_int, le_int, gt_int, ge_int, eq_int, ne_int, eq_bl, ne_bl, len_lst, len_tup, add_int, sub_int, sub_lst, sub_tup, tru_bl, recvM, rng_small (show r4 < 1000 by omega)]
  refine (ev_mapS IsDM (fun y => ∃ t : T, Tx t ∧ t.length < 6 ∧ y = .str t) (fun _ _ => rfl) (fun x hx μ hμ => ?_) hm5).mono fun ys μ6 ⟨g1, g2, hm6⟩ => ?_
  · rw [turnM_1 (by simp)]
    simp -implicitDefEqProofs only [rns_cons, rns_nil, sL_cons, sL_nil, eL_cons, eL_nil, rn, ev, evT, evs, evo, evq, evi, evC, bnd_ok, calm_ok, opt_some, nxt_nx, nxt_ret, nxt_brk, nxt_ct, ev_ok, fresh, bindT, bindTs, setSl, Option.map_some, Option.map_none, List.getElem?_cons_zero, List.getElem?_cons_succ, List.set_cons_zero, List.set_cons_succ, List.length_cons, List.length_nil, Nat.reduceAdd, Nat.reduceLT, Nat.zero_lt_succ, Nat.reduceSub, if_true, ite_tt, ite_ff, Bool.false_eq_true, if_false, in_str, lt_int, le_int, gt_int, ge_int, eq_int, ne_int, eq_bl, ne_bl, len_lst, len_tup, add_int, sub_int, sub_lst, sub_tup, tru_bl, recvM]
    simp only [ev_bnd]
    refine (f_tline 9 μ hμ 6 (by omega) (by omega)).mono fun d μ1 ⟨tt, hd, htt, htt2, hmm⟩ => ?_
    subst hd
    exact ⟨_, rfl, ⟨tt, htt, by omega, rfl⟩, hmm⟩
  obtain ⟨ts, rfl, hts⟩ := ys_tx g2
  have htsl : ts.length ≤ 80 := by
    rw [List.length_map] at g1
    simp at g1
    omega
  have hd6 := hm6.dry
  have htx : ∀ t ∈ ts, Tx t := fun t h => (hts t h).1
  simp -implicitDefEqProofs only [rns_cons, rns_nil, sL_cons, sL_nil, eL_cons, eL_nil, rn, ev, evT, evs, evo, evq, evi, evC, bnd_ok, calm_ok, opt_some, nxt_nx, nxt_ret, nxt_brk, nxt_ct, ev_ok, fresh, bindT, bindTs, setSl, Option.map_some, Option.map_none, List.getElem?_cons_zero, List.getElem?_cons_succ, List.set_cons_zero, List.set_cons_succ, List.length_cons, List.length_nil, Nat.reduceAdd, Nat.reduceLT, Nat.zero_lt_succ, Nat.reduceSub, if_true, ite_tt, ite_ff, Bool.false_eq_true, if_false, in_str, lt_int, le_int, gt_int, ge_int, eq_int, ne_int, eq_bl, ne_bl, len_lst, len_tup, add_int, sub_int, sub_lst, sub_tup, tru_bl, recvM, seq_lst]
  simp only [ev_bnd, ev_calm]
  refine ev_mapR (fun t => .str (lineP t)) wOk_nil (fun s hs => ?_) ?_
  · have hs1 := htx s hs
    have hls : (levels (beginP s) s).length ≤ 80 := by rw [levels_len]; exact hs1.len
    rw [turnM_1 (by simp)]
    simp -implicitDefEqProofs only [rns_cons, rns_nil, sL_cons, sL_nil, eL_cons, eL_nil, rn, ev, evT, evs, evo, evq, evi, evC, bnd_ok, calm_ok, opt_some, nxt_nx, nxt_ret, nxt_brk, nxt_ct, ev_ok, fresh, bindT, bindTs, setSl, Option.map_some, Option.map_none, List.getElem?_cons_zero, List.getElem?_cons_succ, List.set_cons_zero, List.set_cons_succ, List.length_cons, List.length_nil, Nat.reduceAdd, Nat.reduceLT, Nat.zero_lt_succ, Nat.reduceSub, if_true, ite_tt, ite_ff, Bool.false_eq_true, if_false, in_str, lt_int, le_int, gt_int, ge_int, eq_int, ne_int, eq_bl, ne_bl, len_lst, len_tup, add_int, sub_int, sub_lst, sub_tup, tru_bl, recvM, f_lbegin 9 s μ6 hd6 hs1, f_llevels 9 s (beginP s) μ6 hd6 hs1 (beginP_01 s), f_lorder 10 _ μ6 hd6 hls, f_part s μ6 hd6 hs1]
  rw [show (ts.map fun t => D.str (lineP t)) = (ts.map lineP).map .str by rw [List.map_map]; rfl]
  have hxl : ∀ x ∈ ts.map lineP, x.length ≤ 80 := fun x hx => by
    obtain ⟨s, h, rfl⟩ := List.mem_map.mp hx
    rw [lineP_len]
    exact (htx s h).len
  have rvv : ∀ μ, revM μ (.lst ((ts.map lineP).map D.str)) = some (.lst ((ts.map lineP).reverse.map .str)) := fun μ => by
    show some (D.lst ((ts.map lineP).map D.str).reverse) = _
    rw [List.map_reverse]
  have j1 : ∀ μ : Mu, mthM .join μ (.str [32]) [.lst ((ts.map lineP).map .str)] = some (.str (joinT [32] (ts.map lineP))) := fun μ => join_sp hxl (by rw [List.length_map]; exact htsl)
  have j2 : ∀ μ : Mu, mthM .join μ (.str [32]) [.lst ((ts.map lineP).reverse.map .str)] = some (.str (joinT [32] (ts.map lineP).reverse)) := fun μ => join_sp (fun x hx2 => hxl x (List.mem_reverse.mp hx2)) (by rw [List.length_reverse, List.length_map]; exact htsl)
  have hap : ((if (bg == 1) = true then Mi.R.ok (D.lst ((ts.map lineP).reverse.map .str)) μ6 else Mi.R.ok (D.lst ((ts.map lineP).map .str)) μ6).bnd fun x μ => Mi.R.ok [x] μ).bnd (fun xs μ => opt (mthM .join μ (.str [32]) xs) μ) = Mi.R.ok (.str (apart ts bg)) μ6 := by
    unfold apart
    rcases hb with rfl | rfl
    · rw [show ((0 : Int) == 1) = false from rfl, ite_ff, bnd_ok, bnd_ok, j1]; rfl
    · rw [show ((1 : Int) == 1) = true from rfl, if_pos rfl, bnd_ok, bnd_ok, j2]; rfl
  simp -implicitDefEqProofs only [rns_cons, rns_nil, sL_cons, sL_nil, eL_cons, eL_nil, rn, ev, evT, evs, evo, evq, evi, evC, bnd_ok, calm_ok, opt_some, nxt_nx, nxt_ret, nxt_brk, nxt_ct, ev_ok, fresh, bindT, bindTs, setSl, Option.map_some, Option.map_none, List.getElem?_cons_zero, List.getElem?_cons_succ, List.set_cons_zero, List.set_cons_succ, List.length_cons, List.length_nil, Nat.reduceAdd, Nat.reduceLT, Nat.zero_lt_succ, Nat.reduceSub, if_true, ite_tt, ite_ff, Bool.false_eq_true, if_false, in_str, lt_int, le_int, gt_int, ge_int, eq_int, ne_int, eq_bl, ne_bl, len_lst, len_tup, add_int, sub_int, sub_lst, sub_tup, tru_bl, recvM, f_apart 6 ts bg μ6 hd6 htx htsl hb, rvv, hap, ne_str_self (apart_ok htx bg)]
  simp only [ev_bnd]
  refine (f_roll 10 μ6 hm6 9 (by omega) (by omega)).mono fun d μ7 ⟨wd, hd, hwd, hm7⟩ => ?_
  subst hd
  have hd7 := hm7.dry
  have hw1 : (1 : Int) + (wd : Int) = ((wd + 1 : Nat) : Int) := by omega
  simp -implicitDefEqProofs only [rns_cons, rns_nil, sL_cons, sL_nil, eL_cons, eL_nil, rn, ev, evT, evs, evo, evq, evi, evC, bnd_ok, calm_ok, opt_some, nxt_nx, nxt_ret, nxt_brk, nxt_ct, ev_ok, fresh, bindT, bindTs, setSl, Option.map_some, Option.map_none, List.getElem?_cons_zero, List.getElem?_cons_succ, List.set_cons_zero, List.set_cons_succ, List.length_cons, List.length_nil, Nat.reduceAdd, Nat.reduceLT, Nat.zero_lt_succ, Nat.reduceSub, if_true, ite_tt, ite_ff, Bool.false_eq_true, if_false, in_str, lt_int, le_int, gt_int, ge_int, eq_int, ne_int, eq_bl, ne_bl, len_lst, len_tup, add_int, sub_int, sub_lst, sub_tup, tru_bl, recvM, hw1, f_lines 7 t (wd + 1) μ7 hd7 ht (by omega) (by omega), f_lrows 8 t (wd + 1) μ7 hd7 ht (by omega) (by omega), ls_tup, ne_lst_self (plains_strs (Lf_ok ht (wide := wd + 1) (by omega) t.length 0))]

  exact ⟨_, _, _, _, _, _, _, _, _, _, _, _, _, _, _, _, _, _, _, _, _, _, _, _, (by first | exact True.intro | rfl | contradiction | assumption), hm7⟩
end Mi
set_option Elab.async false
set_option linter.all false
set_option maxRecDepth 100000
set_option maxHeartbeats 40000000
/-! P29b: the rest of the turn; the law. -/
namespace Mi
def bodyB : List S := [.asg (.one 2) (.comp false (.one 9) (.rng (eL [(.call 15 (eL [(.var 1), (.cst (.int 9))]))])) .none (.call 15 (eL [(.var 1), (.cst (.int 5))]))), 
    .asg (.one 13) (.lrng false (eL [(.blt .len (eL [(.var 2)]))])), 
    .ite (.cmp .ne (.blt .sorted (eL [(.call 6 (eL [(.var 2)]))])) (.var 13)) (sL [
      .ret (.cst (.bl false))]) (sL []), 
    .ite (.and (.cmp .ne (.var 2) (.lst false (eL []))) (.and (.cmp .eq (.blt .max (eL [(.var 2)])) (.blt .min (eL [(.var 2)]))) (.cmp .ne (.lsof false (.call 6 (eL [(.var 2)]))) (.ife (.cmp .eq (.bin .mod (.sub (.var 2) (.cst (.int 0))) (.cst (.int 2))) (.cst (.int 0))) (.var 13) (.rev (.var 13)))))) (sL [
      .ret (.cst (.bl false))]) (sL [])]
theorem part_B (x0 x2 x3 x4 x5 x6 x7 x8 x9 x10 x11 x12 x13 x14 x15 x16 x17 x18 x19 x20 x21 x22 x23 x24 : Option D) (μ7 : Mu) (hm7 : IsDM μ7) : Ev (rns (K 11) (sL bodyB) [x0, some (.ref 0), x2, x3, x4, x5, x6, x7, x8, x9, x10, x11, x12, x13, x14, x15, x16, x17, x18, x19, x20, x21, x22, x23, x24] μ7) fun fl μ' => ∃ σ, fl = .nx σ ∧ IsDM μ' := by
  unfold bodyB
  simp -implicitDefEqProofs only [rns_cons, rns_nil, sL_cons, sL_nil, eL_cons, eL_nil, rn, ev, evT, evs, evo, evq, evi, evC, bnd_ok, calm_ok, opt_some, nxt_nx, nxt_ret, nxt_brk, nxt_ct, ev_ok, fresh, bindT, bindTs, setSl, Option.map_some, Option.map_none, List.getElem?_cons_zero, List.getElem?_cons_succ, List.set_cons_zero, List.set_cons_succ, List.length_cons, List.length_nil, Nat.reduceAdd, Nat.reduceLT, Nat.zero_lt_succ, Nat.reduceSub, if_true, ite_tt, ite_ff, Bool.false_eq_true, if_false, in_str, lt_int, le_int, gt_int, ge_int, eq_int, ne_int, eq_bl, ne_bl, len_lst, len_tup, add_int, sub_int, sub_lst, sub_tup, tru_bl, recvM]
  simp only [ev_bnd, ev_calm]
  refine (f_roll 10 μ7 hm7 9 (by omega) (by omega)).mono fun d μ8 ⟨r9, hd, hr9, hm8⟩ => ?_
  subst hd
  simp -implicitDefEqProofs only [rns_cons, rns_nil, sL_cons, sL_nil, eL_cons, eL_nil, rn, ev, evT, evs, evo, evq, evi, evC, bnd_ok, calm_ok, opt_some, nxt_nx, nxt_ret, nxt_brk, nxt_ct, ev_ok, fresh, bindT, bindTs, setSl, Option.map_some, Option.map_none, List.getElem?_cons_zero, List.getElem?_cons_succ, List.set_cons_zero, List.set_cons_succ, List.length_cons, List.length_nil, Nat.reduceAdd, Nat.reduceLT, Nat.zero_lt_succ, Nat.reduceSub, if_true, ite_tt, ite_ff, Bool.false_eq_true, if_false, in_str, lt_int, le_int, gt_int, ge_int, eq_int, ne_int, eq_bl, ne_bl, len_lst, len_tup, add_int, sub_int, sub_lst, sub_tup, tru_bl, recvM, rng_small (show r9 < 1000 by omega)]
  refine ev_rollsC hm8 (fun x μ hμ => ?_) fun nl μ9 k1 hnl hm9 => ?_
  · rw [turnM_1 (by simp)]
    simp -implicitDefEqProofs only [rns_cons, rns_nil, sL_cons, sL_nil, eL_cons, eL_nil, rn, ev, evT, evs, evo, evq, evi, evC, bnd_ok, calm_ok, opt_some, nxt_nx, nxt_ret, nxt_brk, nxt_ct, ev_ok, fresh, bindT, bindTs, setSl, Option.map_some, Option.map_none, List.getElem?_cons_zero, List.getElem?_cons_succ, List.set_cons_zero, List.set_cons_succ, List.length_cons, List.length_nil, Nat.reduceAdd, Nat.reduceLT, Nat.zero_lt_succ, Nat.reduceSub, if_true, ite_tt, ite_ff, Bool.false_eq_true, if_false, in_str, lt_int, le_int, gt_int, ge_int, eq_int, ne_int, eq_bl, ne_bl, len_lst, len_tup, add_int, sub_int, sub_lst, sub_tup, tru_bl, recvM]
    simp only [ev_bnd]
    refine (f_roll 10 μ hμ 5 (by omega) (by omega)).mono fun d μ1 h1 => ?_
    obtain ⟨r5, hd, hr5, hmm⟩ := h1
    subst hd
    exact ⟨_, rfl, ⟨r5, by omega, rfl⟩, hmm⟩
  have hd9 := hm9.dry
  have hnll : nl.length < 9 := by
    rw [k1, List.length_map, List.length_range]
    omega
  have hnl2 : (nl.map D.int).length = nl.length := List.length_map ..
  have hrg2 : rngM [.int (nl.length : Int)] = some (intz (List.range nl.length)) := rng_nat (by omega)
  have hpm : (sorder nl).Perm (List.range nl.length) := sord_perm _ _
  have hrv : ∀ μ : Mu, revM μ (.lst (intz (List.range nl.length))) = some (.lst (intz (List.range nl.length).reverse)) := fun μ => by
    show some (D.lst (intz (List.range nl.length)).reverse) = _
    simp only [intz, List.map_reverse]
  simp -implicitDefEqProofs only [rns_cons, rns_nil, sL_cons, sL_nil, eL_cons, eL_nil, rn, ev, evT, evs, evo, evq, evi, evC, bnd_ok, calm_ok, opt_some, nxt_nx, nxt_ret, nxt_brk, nxt_ct, ev_ok, fresh, bindT, bindTs, setSl, Option.map_some, Option.map_none, List.getElem?_cons_zero, List.getElem?_cons_succ, List.set_cons_zero, List.set_cons_succ, List.length_cons, List.length_nil, Nat.reduceAdd, Nat.reduceLT, Nat.zero_lt_succ, Nat.reduceSub, if_true, ite_tt, ite_ff, Bool.false_eq_true, if_false, in_str, lt_int, le_int, gt_int, ge_int, eq_int, ne_int, eq_bl, ne_bl, len_lst, len_tup, add_int, sub_int, sub_lst, sub_tup, tru_bl, recvM, hnl2, hrg2, f_ord_lst 10 nl μ9 hd9 (by omega) hnl, sorted_tup hpm (show nl.length < 64 by omega), ne_lst_self (plains_intz (List.range nl.length)), ne_nil (plains_int nl 19)]
  cases nl with
  | nil =>
    have e1 : (([] : List Int).map D.int).isEmpty = true := rfl
    simp -implicitDefEqProofs only [rns_cons, rns_nil, sL_cons, sL_nil, eL_cons, eL_nil, rn, ev, evT, evs, evo, evq, evi, evC, bnd_ok, calm_ok, opt_some, nxt_nx, nxt_ret, nxt_brk, nxt_ct, ev_ok, fresh, bindT, bindTs, setSl, Option.map_some, Option.map_none, List.getElem?_cons_zero, List.getElem?_cons_succ, List.set_cons_zero, List.set_cons_succ, List.length_cons, List.length_nil, Nat.reduceAdd, Nat.reduceLT, Nat.zero_lt_succ, Nat.reduceSub, if_true, ite_tt, ite_ff, Bool.false_eq_true, if_false, in_str, lt_int, le_int, gt_int, ge_int, eq_int, ne_int, eq_bl, ne_bl, len_lst, len_tup, add_int, sub_int, sub_lst, sub_tup, tru_bl, recvM, e1, Bool.not_true]
    exact ⟨_, rfl, hm9⟩
  | cons c r =>
    have e1 : ((c :: r).map D.int).isEmpty = false := rfl
    have mxx : ∀ μ : Mu, bltM .max μ [.lst ((c :: r).map D.int)] = some (.int (maxI c r)) := fun μ => by
      show (match toInts ((c :: r).map D.int) with
        | some (n :: ns) => some (D.int (maxI n ns))
        | _ => none) = _
      rw [toInts_map]
    have mnn : ∀ μ : Mu, bltM .min μ [.lst ((c :: r).map D.int)] = some (.int (minI c r)) := fun μ => by
      show (match toInts ((c :: r).map D.int) with
        | some (n :: ns) => some (D.int (minI n ns))
        | _ => none) = _
      rw [toInts_map]
    simp only [List.length_cons] at hrv
    have i0 : atD ((c :: r).map D.int) 0 = some (.int c) := atD_0 rfl
    simp -implicitDefEqProofs only [rns_cons, rns_nil, sL_cons, sL_nil, eL_cons, eL_nil, rn, ev, evT, evs, evo, evq, evi, evC, bnd_ok, calm_ok, opt_some, nxt_nx, nxt_ret, nxt_brk, nxt_ct, ev_ok, fresh, bindT, bindTs, setSl, Option.map_some, Option.map_none, List.getElem?_cons_zero, List.getElem?_cons_succ, List.set_cons_zero, List.set_cons_succ, List.length_cons, List.length_nil, Nat.reduceAdd, Nat.reduceLT, Nat.zero_lt_succ, Nat.reduceSub, if_true, ite_tt, ite_ff, Bool.false_eq_true, if_false, in_str, lt_int, le_int, gt_int, ge_int, eq_int, ne_int, eq_bl, ne_bl, len_lst, len_tup, add_int, sub_int, sub_lst, sub_tup, tru_bl, recvM, e1, Bool.not_false, mxx, mnn]
    by_cases q : maxI c r = minI c r
    · have m1 := maxI_mem r c
      have m2 := minI_mem r c
      have hc0 := hnl c List.mem_cons_self
      have hall : ∀ x ∈ c :: r, x = ((c.toNat : Nat) : Int) := fun x hx => by
        have a1 := m1.2 x hx
        have a2 := m2.2 x hx
        have a3 := m1.2 c List.mem_cons_self
        have a4 := m2.2 c List.mem_cons_self
        omega
      have hsame := sorder_same hall (by simp)
      have hfo := f_ord_lst 10 (c :: r) μ9 hd9 (by omega) hnl
      rw [hsame] at hfo
      have q1 : (maxI c r == minI c r) = true := beq_iff_eq.mpr q
      by_cases z : c.toNat % 2 = 0
      · have z1 : (c % 2 == 0) = true := beq_iff_eq.mpr (by omega)
        rw [if_pos z] at hfo
        simp -implicitDefEqProofs only [rns_cons, rns_nil, sL_cons, sL_nil, eL_cons, eL_nil, rn, ev, evT, evs, evo, evq, evi, evC, bnd_ok, calm_ok, opt_some, nxt_nx, nxt_ret, nxt_brk, nxt_ct, ev_ok, fresh, bindT, bindTs, setSl, Option.map_some, Option.map_none, List.getElem?_cons_zero, List.getElem?_cons_succ, List.set_cons_zero, List.set_cons_succ, List.length_cons, List.length_nil, Nat.reduceAdd, Nat.reduceLT, Nat.zero_lt_succ, Nat.reduceSub, if_true, ite_tt, ite_ff, Bool.false_eq_true, if_false, in_str, lt_int, le_int, gt_int, ge_int, eq_int, ne_int, eq_bl, ne_bl, len_lst, len_tup, add_int, sub_int, sub_lst, sub_tup, tru_bl, recvM, q1, hfo, ls_tup, i0, mod_int (show (0 : Int) < 2 by decide), z1, ne_lst_self (plains_intz (List.range (r.length + 1)))]
        exact ⟨_, rfl, hm9⟩
      · have z1 : (c % 2 == 0) = false := beq_eq_false_iff_ne.mpr (by omega)
        rw [if_neg z] at hfo
        simp -implicitDefEqProofs only [rns_cons, rns_nil, sL_cons, sL_nil, eL_cons, eL_nil, rn, ev, evT, evs, evo, evq, evi, evC, bnd_ok, calm_ok, opt_some, nxt_nx, nxt_ret, nxt_brk, nxt_ct, ev_ok, fresh, bindT, bindTs, setSl, Option.map_some, Option.map_none, List.getElem?_cons_zero, List.getElem?_cons_succ, List.set_cons_zero, List.set_cons_succ, List.length_cons, List.length_nil, Nat.reduceAdd, Nat.reduceLT, Nat.zero_lt_succ, Nat.reduceSub, if_true, ite_tt, ite_ff, Bool.false_eq_true, if_false, in_str, lt_int, le_int, gt_int, ge_int, eq_int, ne_int, eq_bl, ne_bl, len_lst, len_tup, add_int, sub_int, sub_lst, sub_tup, tru_bl, recvM, q1, hfo, ls_tup, i0, mod_int (show (0 : Int) < 2 by decide), z1, hrv, ne_lst_self (plains_intz (List.range (r.length + 1)).reverse)]
        exact ⟨_, rfl, hm9⟩
    · have q1 : (maxI c r == minI c r) = false := beq_eq_false_iff_ne.mpr q
      simp -implicitDefEqProofs only [rns_cons, rns_nil, sL_cons, sL_nil, eL_cons, eL_nil, rn, ev, evT, evs, evo, evq, evi, evC, bnd_ok, calm_ok, opt_some, nxt_nx, nxt_ret, nxt_brk, nxt_ct, ev_ok, fresh, bindT, bindTs, setSl, Option.map_some, Option.map_none, List.getElem?_cons_zero, List.getElem?_cons_succ, List.set_cons_zero, List.set_cons_succ, List.length_cons, List.length_nil, Nat.reduceAdd, Nat.reduceLT, Nat.zero_lt_succ, Nat.reduceSub, if_true, ite_tt, ite_ff, Bool.false_eq_true, if_false, in_str, lt_int, le_int, gt_int, ge_int, eq_int, ne_int, eq_bl, ne_bl, len_lst, len_tup, add_int, sub_int, sub_lst, sub_tup, tru_bl, recvM, q1]
      exact ⟨_, rfl, hm9⟩

theorem law_split : b_law = sL [.for (.one 1) (.seq (.call 16 (eL [(.var 0), (.cst (.int 1))]))) (sL (bodyA ++ bodyB)), .ret (.call 25 (eL []))] := rfl
def LV : Nat := 12
theorem lawK : ∀ ns : List Int, ns.length ≤ 63 → (∀ z ∈ ns, PySem.Builtin.Int.intBits z ≤ 1048576) → ∃ μ, (pkK.env LV).fn 26 [.scr ns] [] = .ok (.bl true) μ := fun ns _ _ => by
  suffices h : Ev ((K 12).fn 26 [.scr ns] []) fun d _ => d = .bl true by
    obtain ⟨d, μ, e, rfl⟩ := h.ex
    exact ⟨μ, e⟩
  rw [fn_at (n := 11) (d := dF_law) rfl]
  show Ev (fun_ (K 11) 25 false b_law [.scr ns] []) _
  refine fun_ret2 [some (.scr ns), none, none, none, none, none, none, none, none, none, none, none, none, none, none, none, none, none, none, none, none, none, none, none, none] rfl ?_
  rw [law_split]
  simp -implicitDefEqProofs only [rns_cons, rns_nil, sL_cons, sL_nil, eL_cons, eL_nil, rn, ev, evT, evs, evo, evq, evi, evC, bnd_ok, calm_ok, opt_some, nxt_nx, nxt_ret, nxt_brk, nxt_ct, ev_ok, fresh, bindT, bindTs, setSl, Option.map_some, Option.map_none, List.getElem?_cons_zero, List.getElem?_cons_succ, List.set_cons_zero, List.set_cons_succ, List.length_cons, List.length_nil, Nat.reduceAdd, Nat.reduceLT, Nat.zero_lt_succ, Nat.reduceSub, if_true, ite_tt, ite_ff, Bool.false_eq_true, if_false, in_str, lt_int, le_int, gt_int, ge_int, eq_int, ne_int, eq_bl, ne_bl, len_lst, len_tup, add_int, sub_int, sub_lst, sub_tup, tru_bl, recvM]
  simp only [ev_bnd]
  refine (f_rounds 9 ns).mono fun d μ0 ⟨hd, hm0⟩ => ?_
  subst hd
  simp -implicitDefEqProofs only [rns_cons, rns_nil, sL_cons, sL_nil, eL_cons, eL_nil, rn, ev, evT, evs, evo, evq, evi, evC, bnd_ok, calm_ok, opt_some, nxt_nx, nxt_ret, nxt_brk, nxt_ct, ev_ok, fresh, bindT, bindTs, setSl, Option.map_some, Option.map_none, List.getElem?_cons_zero, List.getElem?_cons_succ, List.set_cons_zero, List.set_cons_succ, List.length_cons, List.length_nil, Nat.reduceAdd, Nat.reduceLT, Nat.zero_lt_succ, Nat.reduceSub, if_true, ite_tt, ite_ff, Bool.false_eq_true, if_false, in_str, lt_int, le_int, gt_int, ge_int, eq_int, ne_int, eq_bl, ne_bl, len_lst, len_tup, add_int, sub_int, sub_lst, sub_tup, tru_bl, recvM, seq_lst]
  refine for_inv (fun k σ μ => IsDM μ ∧ (k = 0 → σ = [some (.scr ns), none, none, none, none, none, none, none, none, none, none, none, none, none, none, none, none, none, none, none, none, none, none, none, none])) ⟨hm0, fun _ => rfl⟩ (fun _ _ _ _ => rfl) ?_ ?_
  · rintro k x σ μ hx ⟨hm, h0⟩
    have hk : k = 0 := by
      have := (List.getElem?_eq_some_iff.mp hx).1
      simp at this
      exact this
    subst hk
    have hx : x = .ref 0 := by simpa using hx.symm
    subst hx
    rw [h0 rfl, turn_1 (by simp), rns_app, ev_bnd]
    refine (part_A ns μ hm).mono fun fl μ' h => ?_
    obtain ⟨x0, x2, x3, x4, x5, x6, x7, x8, x9, x10, x11, x12, x13, x14, x15, x16, x17, x18, x19, x20, x21, x22, x23, x24, hfl, hm7⟩ := h
    rw [hfl, nxt_nx]
    refine (part_B x0 x2 x3 x4 x5 x6 x7 x8 x9 x10 x11 x12 x13 x14 x15 x16 x17 x18 x19 x20 x21 x22 x23 x24 μ' hm7).mono fun fl μ2 h => ?_
    obtain ⟨σ2, hfl2, hm8⟩ := h
    exact ⟨σ2, .inl hfl2, hm8, fun z => by omega⟩
  · rintro σ μ ⟨⟨a, b, m, rfl⟩, _⟩
    simp -implicitDefEqProofs only [rns_cons, rns_nil, sL_cons, sL_nil, eL_cons, eL_nil, rn, ev, evT, evs, evo, evq, evi, evC, bnd_ok, calm_ok, opt_some, nxt_nx, nxt_ret, nxt_brk, nxt_ct, ev_ok, fresh, bindT, bindTs, setSl, Option.map_some, Option.map_none, List.getElem?_cons_zero, List.getElem?_cons_succ, List.set_cons_zero, List.set_cons_succ, List.length_cons, List.length_nil, Nat.reduceAdd, Nat.reduceLT, Nat.zero_lt_succ, Nat.reduceSub, if_true, ite_tt, ite_ff, Bool.false_eq_true, if_false, in_str, lt_int, le_int, gt_int, ge_int, eq_int, ne_int, eq_bl, ne_bl, len_lst, len_tup, add_int, sub_int, sub_lst, sub_tup, tru_bl, recvM, plain_ok]
    exact ⟨_, .inl rfl, _, _, rfl, rfl⟩
end Mi
set_option Elab.async false
set_option linter.all false
set_option maxRecDepth 100000
set_option maxHeartbeats 0
namespace Mi
open PySem PySem.Spec PyProof.Rows L2
def loose0 : List Str := ["LocaleFault", "SideError", "MOST_SIGNS", "RIGHT_LETTERS", "LEFT_LETTERS", "MIRRORS", "check_line", "kind_of_sign", "begin_of", "levels_of", "plain_kinds", "with_between", "seen_order", "line_seen", "place_seen", "runs_seen", "marked_within", "is_mixed", "kept_apart", "lines_seen", "_law_dice", "_law_roll", "_law_rounds", "_law_told", "_law_line", "_law_kind", "_law_levels", "_law_order", "_law_seen", "_law_begin"]
def loose1 : List Str := ["_law_rows", "_law_plain"]
def looseK : List Str := loose0 ++ loose1
abbrev RR : PySem.W.OpenRow := PySem.W.OpenLaw.row PySem.Challenge.rw_localestack_k16_texts_of_two_sides
abbrev hkK : PySem.W.Hook := hookM 5 pkK.fa pkK.fn pkK.tk pkK.ex
def obK (s : PySem.W.SharedT) : AlM := obsM 5 pkK.fa pkK.fn pkK.tk pkK.ex (HandSHeadRun.getT s)
theorem obK_eq (s : PySem.W.SharedT) : obK s = hkK.obs s.abs := obsM_eq (HandSHeadRun.getT_eq s)
abbrev RunP (w : World) : Prop := HandSHeadRun.RunEq RR (PySem.W.view RR.prog [35]) hkK obK 2000 looseK w
theorem runF (w : World) : RunP (w.withFollow "special-get-raises" false) := by
  intro os
  kernel_rfl
theorem runT (w : World) : RunP (w.withFollow "special-get-raises" true) := by
  intro os
  kernel_rfl
theorem runK (w : World) : RunP w := PySem.W.byRow2 "special-get-raises" (P := RunP) runF runT w
end Mi
open PySem PySem.W PySem.Calls PyProof.Rows
theorem PySem.Challenge.cw_localestack_k16_texts_of_two_sides_holds : PySem.Challenge.rw_localestack_k16_texts_of_two_sides.Holds := by
  w_on; o_law
  refine HandSHeadRun.head_any (r := OpenLaw.row PySem.Challenge.rw_localestack_k16_texts_of_two_sides) (q := view (OpenLaw.row PySem.Challenge.rw_localestack_k16_texts_of_two_sides).prog [35]) (H := Mi.hkK) (ob := Mi.obK) (M := 2000) (loose := Mi.looseK) (d := HandSHeadRun.topDef (OpenLaw.row PySem.Challenge.rw_localestack_k16_texts_of_two_sides).prog 35) (kwd := []) Mi.obK_eq
    (by kernel_rfl) (fun s => by kernel_rfl) Mi.runK (by kernel_rfl) (by kernel_rfl) (by kernel_rfl) (by rfl) (by first | assumption | decide +kernel) (by decide +kernel) ⟨rfl, rfl, rfl, rfl, rfl, by decide +kernel⟩ ?hw ?hc
  case hw => w_witness2
  case hc =>
    exact Mi.walk_M (l := PySem.Challenge.rw_localestack_k16_texts_of_two_sides) (n := 63) (lv := Mi.LV) (p := Mi.pkK) (li := 26) (ld := Mi.dF_law) (x := "script") (N := 5) Mi.pkG rfl (by decide) (by kernel_rfl) ⟨rfl, by decide, by decide⟩ (by rfl) rfl (by kernel_rfl) Mi.lawK
