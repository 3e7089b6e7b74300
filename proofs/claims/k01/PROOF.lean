import PyProof.Rows.All
import Wide.All
import OpenK.AllK
import Wide.FinOn
import HandS.ForMost
import PyProof.ReprRoads
import HandS.RaiseMore
import HandS.ForExc
import HandS.Wide
import HandS.TupAny
import HandS.Style
import HandS.Deep
import PyProof.EqKinds
import PyProof.NeKinds
import HandS.Dict
import HandS.IsInst
import HandS.SortInts
import HandS.More
import HandS.Replace
import HandS.CallSlots
import HandS.Defaults
import HandS.HeadEnd
import HandS.Head2
import HandS.Flow
import HandS.Zip
import HandS.ExcField
import HandS.TryOnly
import HandS.ExcOwn
import HandS.HeadHook2
import KE.KExcInit
import HandS.Head0
import HandS.Head1
import HandS.HeadHook1
import PySem.Challenge.RW_linkbooks_k01_whole_sorted_tuples
set_option Elab.async false
set_option linter.all false
set_option maxRecDepth 100000
set_option maxHeartbeats 4000000
namespace EV
abbrev T := List Nat

/-- data that never changes -/
inductive D where
  | non | bl (b : Bool) | int (i : Int) | str (s : T)
  | tup (xs : List D) | lst (xs : List D) | dct (kvs : List (D × D))
  | ins (c : Nat) (fs : List (Nat × D))
  | ty (n : Nat) | cls (n : Nat)
  /-- the script -/
  | scr (ns : List Int)
  deriving Inhabited
/-- a value of a name: data, or one of the running def's own changing objects -/
inductive W where
  | d (x : D) | loc (n : Nat)
  deriving Inhabited
inductive Obj where
  | lst (xs : List D) | dct (kvs : List (D × D)) | ins (c : Nat) (fs : List (Nat × W)) | frz (d : D)
  deriving Inhabited
structure Exc where
  c : Nat
  arg : Option D
inductive R (α : Type) where
  | ok (a : α) (L : List Obj)
  | err (x : Exc) (L : List Obj)
  | bad

def R.bind {α β : Type} : R α → (α → List Obj → R β) → R β
  | .ok a L, f => f a L
  | .err x L, _ => .err x L
  | .bad, _ => .bad
def R.ofO {α : Type} (L : List Obj) : Option α → R α
  | some a => .ok a L
  | none => .bad

abbrev Env := List (Option W)
abbrev Fn := List W → List Obj → R W
abbrev SZ : Nat := 16777216

def insD : List (Nat × W) → Option (List (Nat × D))
  | [] => some []
  | (k, .d x) :: r => (insD r).map ((k, x) :: ·)
  | (_, .loc _) :: _ => none
def Obj.data : Obj → Option D
  | .lst xs => some (.lst xs)
  | .dct kvs => some (.dct kvs)
  | .ins c fs => (insD fs).map (.ins c)
  | .frz d => some d
def peek : W → List Obj → Option D
  | .d x, _ => some x
  | .loc n, L => (L[n]?).bind Obj.data
/-- the value, for good -/
def asD : W → List Obj → Option (D × List Obj)
  | .d x, L => some (x, L)
  | .loc n, L => ((L[n]?).bind Obj.data).map fun d => (d, L.set n (.frz d))
def peeks : List W → List Obj → Option (List D)
  | [], _ => some []
  | w :: ws, L => (peek w L).bind fun d => (peeks ws L).map (d :: ·)
def asDs : List W → List Obj → Option (List D × List Obj)
  | [], L => some ([], L)
  | w :: ws, L => (asD w L).bind fun p => (asDs ws p.2).map fun q => (p.1 :: q.1, q.2)

mutual
/-- Python's == of data without dicts and instances -/
def D.eqv : D → D → Bool
  | .non, .non => true
  | .bl a, .bl b => a == b
  | .bl a, .int j => (if a then 1 else 0) == j
  | .int i, .bl b => i == (if b then 1 else 0)
  | .int i, .int j => i == j
  | .str x, .str y => x == y
  | .lst xs, .lst ys => eqvs xs ys
  | .tup xs, .tup ys => eqvs xs ys
  | _, _ => false
def eqvs : List D → List D → Bool
  | [], [] => true
  | x :: xs, y :: ys => D.eqv x y && eqvs xs ys
  | _, _ => false
end
mutual
/-- no dict, no instance, no class in it -/
def D.plain : D → Bool
  | .non | .bl _ | .int _ => true
  | .str s => s.all fun c => decide (c < 1114112)
  | .tup xs => plains xs
  | .lst xs => plains xs
  | _ => false
def plains : List D → Bool
  | [] => true
  | x :: xs => D.plain x && plains xs
end
mutual
def D.deep : D → Nat
  | .tup xs => deeps xs + 1
  | .lst xs => deeps xs + 1
  | .dct kvs => deepkv kvs + 1
  | _ => 0
def deeps : List D → Nat
  | [] => 0
  | x :: xs => max (D.deep x) (deeps xs)
def deepkv : List (D × D) → Nat
  | [] => 0
  | (k, v) :: r => max (max (D.deep k) (D.deep v)) (deepkv r)
end
def eqO : D → D → Option Bool
  | .str a, .str b => some (a == b)
  | a, b => if a.plain && b.plain && decide (a.deep ≤ 20) && decide (b.deep ≤ 20) then some (D.eqv a b) else none

/-- the order of texts -/
def ltT : T → T → Bool
  | [], [] => false
  | [], _ :: _ => true
  | _ :: _, [] => false
  | a :: as, b :: bs => decide (a < b) || (a == b && ltT as bs)

inductive BOp where
  | add | sub | mul | fdiv | mod | pow
  deriving DecidableEq
inductive COp where
  | eq | ne | lt | le | gt | ge | is_ | isNot | in_ | notIn
  deriving DecidableEq

def bitsOk (i j : Int) : Bool := decide (i.natAbs < 2 ^ 100000) && decide (j.natAbs < 2 ^ 100000)
def rep (n : Nat) (s : List α) : List α := (List.replicate n s).flatten
def binO : BOp → D → D → Option D
  | .add, .int i, .int j => some (.int (i + j))
  | .add, .str a, .str b => if a.length + b.length ≤ SZ then some (.str (a ++ b)) else none
  | .add, .lst a, .lst b => if a.length + b.length ≤ SZ then some (.lst (a ++ b)) else none
  | .add, .tup a, .tup b => if a.length + b.length ≤ SZ then some (.tup (a ++ b)) else none
  | .sub, .int i, .int j => some (.int (i - j))
  | .mul, .int i, .int j => if bitsOk i j then some (.int (i * j)) else none
  | .mul, .str a, .int j => if decide (-(2 ^ 62) < j ∧ j < 2 ^ 62) && decide (a.length * j.toNat ≤ SZ) then some (.str (rep j.toNat a)) else none
  | .fdiv, .int i, .int j => if decide (0 < j) && decide (j.natAbs < 2 ^ 9000) then some (.int (i / j)) else none
  | .mod, .int i, .int j => if decide (0 < j) then some (.int (i % j)) else none
  | .pow, .int i, .int j => if decide (0 ≤ j) && decide (j ≤ 1000000) && decide (i.natAbs < 2 ^ 64) then some (.int (i ^ j.toNat)) else none
  | _, _, _ => none

def D.isDct : D → Bool
  | .dct _ => true
  | _ => false
/-- a key of a dict -/
def keyD : D → Option (Int ⊕ PySem.Str)
  | .str s => some (.inr ⟨s.toArray⟩)
  | .int i => some (.inl i)
  | _ => none
/-- what a dict has at a key -/
def atD (kvs : List (D × D)) (k : D) : Option D := (kvs.find? fun p => decide (keyD p.1 = keyD k)).map (·.2)
def putD (kvs : List (D × D)) (k v : D) : List (D × D) :=
  if (kvs.any fun p => decide (keyD p.1 = keyD k)) = true then kvs.map (fun p => if keyD p.1 = keyD k then (p.1, v) else p) else kvs ++ [(k, v)]
def mergeD (kvs more : List (D × D)) : List (D × D) := more.foldl (fun acc p => putD acc p.1 p.2) kvs
/-- pairs -/
def pairsO : List D → Option (List (D × D))
  | [] => some []
  | .tup [k, v] :: r => if (keyD k).isSome then (pairsO r).map ((k, v) :: ·) else none
  | _ => none
/-- whether a text stands in another one -/
def subT (a : T) : T → Bool
  | [] => a.isEmpty
  | c :: r => a.isPrefixOf (c :: r) || subT a r
def inO (x : D) : D → Option Bool
  | .str s => match x with
    | .str [c] => some (decide (c ∈ s))
    | _ => none
  | .lst xs => if x.plain && plains xs && decide (x.deep ≤ 20) && decide (deeps xs ≤ 20) then some (xs.any fun y => D.eqv y x) else if x.isDct && plains xs then some false else none
  | .tup xs => if x.plain && plains xs && decide (x.deep ≤ 20) && decide (deeps xs ≤ 20) then some (xs.any fun y => D.eqv y x) else if x.isDct && plains xs then some false else none
  | .dct kvs => if (keyD x).isSome then some (atD kvs x).isSome else none
  | _ => none
def D.isNon : D → Bool
  | .non => true
  | _ => false
def cmpO : COp → D → D → Option Bool
  | .eq, a, b => eqO a b
  | .ne, a, b => (eqO a b).map (!·)
  | .lt, .int i, .int j => some (decide (i < j))
  | .le, .int i, .int j => some (decide (i ≤ j))
  | .gt, .int i, .int j => some (decide (j < i))
  | .ge, .int i, .int j => some (decide (j ≤ i))
  | .lt, .str a, .str b => some (ltT a b)
  | .le, .str a, .str b => some (!ltT b a)
  | .gt, .str a, .str b => some (ltT b a)
  | .ge, .str a, .str b => some (!ltT a b)
  | .is_, .bl a, .bl b => some (a == b)
  | .is_, a, .non => some a.isNon
  | .isNot, .bl a, .bl b => some (!(a == b))
  | .isNot, a, .non => some (!a.isNon)
  | .in_, a, b => inO a b
  | .notIn, a, b => (inO a b).map (!·)
  | _, _, _ => none
def truthO : D → Option Bool
  | .non => some false
  | .bl b => some b
  | .int i => some (i != 0)
  | .str s => if s.length ≤ SZ then some (!s.isEmpty) else none
  | .tup xs => some (!xs.isEmpty)
  | .lst xs => some (!xs.isEmpty)
  | .dct kvs => some (!kvs.isEmpty)
  | _ => none
/-- a place in a sequence -/
def ixO (n : Nat) (i : Int) : Option Nat := if 0 ≤ i then (if i < n then some i.toNat else none) else if -(n : Int) ≤ i then some (i + n).toNat else none
def getO : D → D → Option D
  | .lst xs, .int i => (ixO xs.length i).bind (xs[·]?)
  | .tup xs, .int i => (ixO xs.length i).bind (xs[·]?)
  | .scr ns, .int i => (ixO ns.length i).bind fun k => (ns[k]?).map .int
  | .str s, .int i => if s.length ≤ SZ then (ixO s.length i).bind fun k => (s[k]?).map fun c => .str [c] else none
  | .dct kvs, k => if (keyD k).isSome then atD kvs k else none
  | _, _ => none
/-- the end of a slice -/
def endO (n d : Nat) : Option Int → Nat
  | none => d
  | some v => if v < 0 then (v + (n : Int)).toNat else min v.toNat n
def cut {α : Type} (xs : List α) (lo hi : Option Int) : List α := (xs.drop (endO xs.length 0 lo)).take (endO xs.length xs.length hi - endO xs.length 0 lo)
def partO : Option D → Option (Option Int)
  | none => some none
  | some (.int i) => some (some i)
  | _ => none
def sliceO : D → Option Int → Option Int → Option D
  | .str s, lo, hi => if s.length ≤ SZ then some (.str (cut s lo hi)) else none
  | .tup xs, lo, hi => some (.tup (cut xs lo hi))
  | .lst xs, lo, hi => some (.lst (cut xs lo hi))
  | _, _, _ => none
/-- what a loop walks -/
def itemsO : D → Option (List D)
  | .lst xs => some xs
  | .tup xs => some xs
  | .str s => some (s.map fun c => .str [c])
  | _ => none

/-- how often a text of one sign stands in a text -/
def countT (s : T) (c : Nat) : Nat := s.count c
/-- texts with another one between them -/
def joinT (a : T) : List T → T
  | [] => []
  | [x] => x
  | x :: y :: r => x ++ a ++ joinT a (y :: r)
def strsO : List D → Option (List T)
  | [] => some []
  | .str s :: r => (strsO r).map (s :: ·)
  | _ :: _ => none
def boolsO : List D → Option (List Bool)
  | [] => some []
  | .bl b :: r => (boolsO r).map (b :: ·)
  | _ :: _ => none
def intsO : List D → Option (List Int)
  | [] => some []
  | .int b :: r => (intsO r).map (b :: ·)
  | _ :: _ => none
def trueT : T := [84, 114, 117, 101]
def falseT : T := [70, 97, 108, 115, 101]
def noneT : T := [78, 111, 110, 101]

mutual
/-- plain data as the library has it -/
def D.py : D → PySem.PyData
  | .bl b => .bool b
  | .int i => .int i
  | .str s => .str ⟨s.toArray⟩
  | .tup xs => .tuple (pys xs)
  | .lst xs => .list (pys xs)
  | _ => .none
def pys : List D → List PySem.PyData
  | [] => []
  | x :: xs => D.py x :: pys xs
end
/-- what repr gives -/
def reprO (d : D) : Option T := if d.plain && decide (d.deep ≤ 20) && d.py.showable && decide (d.py.shown.length ≤ SZ) then some d.py.shown.cps.toList else none
/-- ints in their order -/
def insI (x : Int) : List Int → List Int
  | [] => [x]
  | y :: ys => if x ≤ y then x :: y :: ys else y :: insI x ys
def sortI : List Int → List Int
  | [] => []
  | x :: xs => insI x (sortI xs)
theorem insI_perm (x : Int) : ∀ l : List Int, (insI x l).Perm (x :: l)
  | [] => .refl _
  | y :: ys => by
    unfold insI
    split
    · exact .refl _
    · exact (List.Perm.cons y (insI_perm x ys)).trans (List.Perm.swap x y ys)
theorem sortI_perm : ∀ l : List Int, (sortI l).Perm l
  | [] => .refl _
  | x :: xs => (insI_perm x (sortI xs)).trans (List.Perm.cons x (sortI_perm xs))
theorem insI_sorted (x : Int) : ∀ l : List Int, l.Pairwise (· ≤ ·) → (insI x l).Pairwise (· ≤ ·)
  | [], _ => by simp [insI]
  | y :: ys, h => by
    unfold insI
    rw [List.pairwise_cons] at h
    split
    · rename_i hx
      refine List.pairwise_cons.mpr ⟨fun z hz => ?_, List.pairwise_cons.mpr h⟩
      rcases List.mem_cons.mp hz with rfl | hz
      · exact hx
      · exact Int.le_trans hx (h.1 z hz)
    · rename_i hx
      refine List.pairwise_cons.mpr ⟨fun z hz => ?_, insI_sorted x ys h.2⟩
      rcases List.mem_cons.mp ((insI_perm x ys).mem_iff.mp hz) with rfl | hz
      · omega
      · exact h.1 z hz
theorem sortI_sorted : ∀ l : List Int, (sortI l).Pairwise (· ≤ ·)
  | [] => .nil
  | x :: xs => insI_sorted x _ (sortI_sorted xs)
theorem perm_uniq : ∀ {l m : List Int}, l.Perm m → l.Pairwise (· ≤ ·) → m.Pairwise (· ≤ ·) → l = m
  | [], m, p, _, _ => p.nil_eq
  | a :: l, [], p, _, _ => by have := p.length_eq; simp at this
  | a :: l, b :: m, p, h1, h2 => by
    rw [List.pairwise_cons] at h1 h2
    have e1 : b ≤ a := by
      rcases List.mem_cons.mp (p.mem_iff.mp List.mem_cons_self) with rfl | hz
      · exact Int.le_refl _
      · exact h2.1 a hz
    have e2 : a ≤ b := by
      rcases List.mem_cons.mp (p.mem_iff.mpr List.mem_cons_self) with rfl | hz
      · exact Int.le_refl _
      · exact h1.1 b hz
    obtain rfl : a = b := by omega
    rw [perm_uniq p.cons_inv h1.2 h2.2]
inductive Bn where
  | len | abs | int | max | min | isin (t : Nat) | all | any | sum | tuple | list | repr | sorted | dict
  deriving DecidableEq
/-- the number of a built-in class: 0 str, 1 int, 2 bool, 3 tuple, 4 list, 5 dict -/
def tyOf : D → Option Nat
  | .str _ => some 0
  | .int _ => some 1
  | .bl _ => some 2
  | .tup _ => some 3
  | .lst _ => some 4
  | .dct _ => some 5
  | .non => some 6
  | _ => none
def isO (t : Nat) (x : D) : Option Bool := (tyOf x).map fun u => u == t || (u == 2 && t == 1)
def bnO : Bn → List D → Option D
  | .len, [.str s] => if s.length ≤ SZ then some (.int s.length) else none
  | .len, [.lst xs] => some (.int xs.length)
  | .len, [.tup xs] => some (.int xs.length)
  | .len, [.scr ns] => some (.int ns.length)
  | .abs, [.int i] => some (.int i.natAbs)
  | .int, [.int i] => some (.int i)
  | .int, [.bl b] => some (.int (if b then 1 else 0))
  | .max, [.int i, .int j] => some (.int (if j > i then j else i))
  | .min, [.int i, .int j] => some (.int (if j < i then j else i))
  | .isin t, [x] => (isO t x).map .bl
  | .all, [.lst xs] => (boolsO xs).map fun bs => .bl (bs.all id)
  | .any, [.lst xs] => (boolsO xs).map fun bs => .bl (bs.any id)
  | .sum, [.lst xs] => (intsO xs).map fun ns => .int ns.sum
  | .tuple, [.lst xs] => some (.tup xs)
  | .tuple, [.tup xs] => some (.tup xs)
  | .tuple, [.str s] => if s.length ≤ SZ then some (.tup (s.map fun c => .str [c])) else none
  | .list, [.lst xs] => some (.lst xs)
  | .list, [.tup xs] => some (.lst xs)
  | .list, [.str s] => if s.length ≤ SZ then some (.lst (s.map fun c => .str [c])) else none
  | .repr, [x] => (reprO x).map .str
  | .sorted, [.lst xs] => (intsO xs).map fun ns => .lst ((sortI ns).map .int)
  | .dict, [.lst xs] => (pairsO xs).map fun ps => .dct (mergeD [] ps)
  | .dict, [.dct kvs] => some (.dct kvs)
  | .len, [.dct kvs] => some (.int kvs.length)
  | _, _ => none
def lowT (s : T) : T := (PySem.Txt.lower ⟨s.toArray⟩).cps.toList
def alphaT (s : T) : Bool := PySem.Txt.isalpha ⟨s.toArray⟩
/-- where a text stands first in another one -/
def placeT (s b : T) : Option Nat := (PySem.Builtin.Str.occurrences ⟨s.toArray⟩ ⟨b.toArray⟩ 0 s.length 1).head?
inductive Mn where
  | join | count | lower | isalpha | index
  deriving DecidableEq
/-- the number of the class whose method it is -/
def mnN : Mn → Nat
  | .join => 0 | .count => 0 | .lower => 0 | .isalpha => 0 | .index => 0
def mnPre (b : Mn) (w : W) (L : List Obj) : Bool := match peek w L with
  | some d => tyOf d == some (mnN b)
  | none => false
def mnO : Mn → D → List D → Option D
  | .join, .str a, [.lst xs] => (strsO xs).bind fun ys => if (ys.map (·.length)).sum + ys.length * a.length ≤ SZ then some (.str (joinT a ys)) else none
  | .count, .str a, [.str [c]] => some (.int (countT a c))
  | .lower, .str a, [] => if a.length ≤ 5592405 then some (.str (lowT a)) else none
  | .isalpha, .str a, [] => some (.bl (alphaT a))
  | .index, .str a, [.str b] => (placeT a b).map fun (i : Nat) => D.int (i : Int)
  | _, _, _ => none
end EV

set_option maxRecDepth 100000
set_option maxHeartbeats 4000000
namespace EV

inductive Tg where
  | nm (i : Nat) | tup (ts : List Tg)
mutual
inductive IE where
  | var (i : Nat)
  | con (d : D)
  | bin (op : BOp) (a b : IE)
  | neg (a : IE) | not (a : IE)
  | and (a b : IE) | or (a b : IE)
  | cmp (op : COp) (a b : IE) | chain (op op' : COp) (a b c : IE)
  | ite (t a b : IE)
  | tup (es : List IE) | lst (m : Bool) (es : List IE) | dct (kvs : List IE)
  | idx (a i : IE) | slice (a : IE) (lo hi : Option IE)
  | call (m : Bool) (f : Nat) (es : List IE)
  | callk (m : Bool) (f : Nat) (es ks : List IE)
  | bn (m : Bool) (b : Bn) (es : List IE)
  | mn (m : Bool) (b : Mn) (o : IE) (es : List IE)
  | app (o e : IE)
  | ext (o e : IE)
  | comp (m : Bool) (own : List Nat) (tg : Tg) (it : It) (ifs : List IE) (elt : IE)
inductive It where
  | val (e : IE) | rng1 (e : IE) | rng2 (a b : IE)
  | zip (a b : IE) | enum (a : IE)
end
/-- what an except suite gives back: x the field of the exception -/
inductive HE where
  | con (d : D) | arg | plus (a b : HE) | rep (a : HE)
inductive IS where
  | asg (tg : Tg) (e : IE)
  | aug (op : BOp) (i : Nat) (e : IE)
  /-- x, y = a, b: the values first, then the stores -/
  | par (is : List Nat) (es : List IE)
  | setI (o i e : IE)
  | ex (e : IE)
  | ret (e : IE) | retN
  | ifs (t : IE) (a b : List IS)
  | for_ (tg : Tg) (it : It) (b : List IS)
  | wh (n : Nat) (t : IE) (b : List IS)
  | pass | brk | cont
  /-- raise C(e), the class keeps e in its field -/
  | raise (c : Nat) (e : IE)
  /-- raise C('..') -/
  | raiseT (c : Nat)
  /-- try: b, except C: return h; with a place, the exception's name -/
  | try_ (b : List IS) (c : Nat) (i : Option Nat) (h : HE)

structure Pr where
  fn : Nat → Fn
  /-- one class of exceptions below another -/
  sub : Nat → Nat → Bool := fun a b => a == b

def alloc (d : D) (L : List Obj) : R W :=
  match d with
  | .lst xs => .ok (.loc L.length) (L ++ [.lst xs])
  | .dct kvs => .ok (.loc L.length) (L ++ [.dct kvs])
  | _ => .bad
/-- a new object: one's own to change, or data -/
def fresh (m : Bool) (d : D) (L : List Obj) : R W := if m then alloc d L else .ok (.d d) L
def outO (L : List Obj) : Option D → R W
  | some d => .ok (.d d) L
  | none => .bad
def outB (L : List Obj) : Option Bool → R W
  | some b => .ok (.d (.bl b)) L
  | none => .bad
def truthR (w : W) (L : List Obj) : R Bool :=
  match (peek w L).bind truthO with
  | some b => .ok b L
  | none => .bad
/-- the place and the items of a list of one's own -/
def lstAt : W → List Obj → Option (Nat × List D)
  | .loc n, L => match L[n]? with
    | some (.lst xs) => some (n, xs)
    | _ => none
  | .d _, _ => none
mutual
def Tg.slots : Tg → List Nat
  | .nm i => [i]
  | .tup ts => slotss ts
def slotss : List Tg → List Nat
  | [] => []
  | t :: ts => Tg.slots t ++ slotss ts
end
mutual
def asg : Tg → W → Env → List Obj → Option Env
  | .nm i, w, ρ, _ => some (ρ.set i (some w))
  | .tup ts, w, ρ, L => match peek w L with
    | some (.tup xs) => asgs ts xs ρ L
    | _ => none
def asgs : List Tg → List D → Env → List Obj → Option Env
  | [], [], ρ, _ => some ρ
  | t :: ts, x :: xs, ρ, L => (asg t (.d x) ρ L).bind fun ρ' => asgs ts xs ρ' L
  | _, _, _, _ => none
end
def wipeE (ρ : Env) : List Nat → Env
  | [] => ρ
  | v :: vs => (wipeE ρ vs).set v none
def rangeO (lo hi : Int) : Option (List D) :=
  if decide (-(2 ^ 62) ≤ lo ∧ lo < 2 ^ 62 ∧ -(2 ^ 62) ≤ hi ∧ hi < 2 ^ 62) then some ((List.range (hi - lo).toNat).map fun (k : Nat) => D.int (lo + (k : Int))) else none
def zipO : D → D → Option (List D)
  | .lst xs, .lst ys => some (List.zipWith (fun x y => D.tup [x, y]) xs ys)
  | .tup xs, .tup ys => some (List.zipWith (fun x y => D.tup [x, y]) xs ys)
  | _, _ => none
def enumL : Nat → List D → List D
  | _, [] => []
  | n, x :: xs => D.tup [.int n, x] :: enumL (n + 1) xs
def compLoop (step : D → List Obj → R (Option D)) : List D → List Obj → R (List D)
  | [], L => .ok [] L
  | x :: xs, L => (step x L).bind fun o L1 => (compLoop step xs L1).bind fun r L2 => .ok (match o with | some d => d :: r | none => r) L2
def R.calm {α : Type} : R α → R α
  | .err _ _ => .bad
  | r => r
def asD1 (w : W) (L : List Obj) : R D :=
  match asD w L with
  | some p => .ok p.1 p.2
  | none => .bad
/-- a dict's display: its pairs one behind another -/
def unpair : List W → Option (List (D × W))
  | [] => some []
  | .d k :: v :: r => match keyD k with
    | some _ => (unpair r).map ((k, v) :: ·)
    | none => none
  | _ => none
def dctD (ws : List W) (L : List Obj) : Option (D × List Obj) :=
  match unpair ws with
  | some ps => match asDs (ps.map (·.2)) L with
    | some (ds, L) => if ps.length ≤ 15 then some (.dct (mergeD [] ((ps.map (·.1)).zip ds)), L) else none
    | none => none
  | none => none
/-- a call: the arguments are handed over for good; no object of the caller's own is handed on, but those that stand alone -/
def locsOf : List W → List Nat
  | [] => []
  | .d _ :: r => locsOf r
  | .loc n :: r => n :: locsOf r
/-- the arguments as the callee sees them: its first objects are those handed over -/
def handed : List W → Nat → List W
  | [], _ => []
  | .d x :: r, k => .d x :: handed r k
  | .loc _ :: r, k => .loc k :: handed r (k + 1)
def live : Obj → Bool
  | .frz _ => false
  | _ => true
def Obj.bare : Obj → Bool
  | .ins _ fs => (insD fs).isSome
  | _ => true
def takeL (L : List Obj) : List Nat → Option (List Obj)
  | [] => some []
  | n :: ns => match L[n]? with
    | some o => if o.bare then (takeL L ns).map (o :: ·) else none
    | none => none
def putL (L : List Obj) : List Nat → List Obj → Option (List Obj)
  | [], _ => some L
  | n :: ns, o :: os => if o.bare then (putL L ns os).map fun L' => L'.set n o else none
  | _ :: _, [] => none
def nodupB : List Nat → Bool
  | [] => true
  | n :: ns => !ns.contains n && nodupB ns
/-- what comes back -/
def backW (ns : List Nat) (L1 : List Obj) : W → Option W
  | .d x => some (.d x)
  | .loc k => match ns[k]? with
    | some n => some (.loc n)
    | none => (peek (.loc k) L1).map .d
/-- with m, a new object that comes back is one's own -/
def backR (m : Bool) (ns : List Nat) (L1 L2 : List Obj) (w : W) : Option (W × List Obj) :=
  if m then match w with
    | .loc k => match ns[k]? with
      | some n => some (.loc n, L2)
      | none => match L1[k]? with
        | some o => if o.bare && live o then some (.loc L2.length, L2 ++ [o]) else none
        | none => none
    | .d x => some (.d x, L2)
  else (backW ns L1 w).map fun w => (w, L2)
def callR (m : Bool) (f : Fn) (ws : List W) (L : List Obj) : R W :=
  match takeL L (locsOf ws) with
  | none => .bad
  | some L0 => if nodupB (locsOf ws) then
      match f (handed ws 0) L0 with
      | .ok w L1 => match putL L (locsOf ws) L1 with
        | some L2 => match backR m (locsOf ws) L1 L2 w with
          | some (w2, L3) => .ok w2 L3
          | none => .bad
        | none => .bad
      | .err x L1 => match putL L (locsOf ws) L1 with
        | some L2 => .err x L2
        | none => .bad
      | .bad => .bad
    else .bad

mutual
def eE (P : Pr) : IE → Env → List Obj → R W
  | .var i, ρ, L => match ρ[i]? with
    | some (some w) => .ok w L
    | _ => .bad
  | .con d, _, L => .ok (.d d) L
  | .bin op a b, ρ, L => (eE P a ρ L).bind fun x L => (eE P b ρ L).bind fun y L => match peek x L, peek y L with
    | some p, some q => outO L (binO op p q)
    | _, _ => .bad
  | .neg a, ρ, L => (eE P a ρ L).bind fun x L => match x with
    | .d (.int i) => .ok (.d (.int (-i))) L
    | _ => .bad
  | .not a, ρ, L => (eE P a ρ L).bind fun x L => (truthR x L).bind fun b L => .ok (.d (.bl (!b))) L
  | .and a b, ρ, L => (eE P a ρ L).bind fun x L => (truthR x L).bind fun c L => if c then eE P b ρ L else .ok x L
  | .or a b, ρ, L => (eE P a ρ L).bind fun x L => (truthR x L).bind fun c L => if c then .ok x L else eE P b ρ L
  | .cmp op a b, ρ, L => (eE P a ρ L).bind fun x L => (eE P b ρ L).bind fun y L => match peek x L, peek y L with
    | some p, some q => outB L (cmpO op p q)
    | _, _ => .bad
  | .chain op op' a b c, ρ, L => (eE P a ρ L).bind fun x L => (eE P b ρ L).bind fun y L => match peek x L, peek y L with
    | some p, some q => match cmpO op p q with
      | some true => (eE P c ρ L).bind fun z L => match peek y L, peek z L with
        | some q', some r => outB L (cmpO op' q' r)
        | _, _ => .bad
      | some false => .ok (.d (.bl false)) L
      | none => .bad
    | _, _ => .bad
  | .ite t a b, ρ, L => (eE P t ρ L).bind fun x L => (truthR x L).bind fun c L => if c then eE P a ρ L else eE P b ρ L
  | .tup es, ρ, L => (eEs P es ρ L).bind fun ws L => match asDs ws L with
    | some (ds, L) => .ok (.d (.tup ds)) L
    | none => .bad
  | .lst m es, ρ, L => (eEs P es ρ L).bind fun ws L => match asDs ws L with
    | some (ds, L) => fresh m (.lst ds) L
    | none => .bad
  | .dct kvs, ρ, L => (eEs P kvs ρ L).bind fun ws L => match dctD ws L with
    | some (d, L) => .ok (.d d) L
    | none => .bad
  | .idx a i, ρ, L => (eE P a ρ L).bind fun x L => (eE P i ρ L).bind fun y L => match peek x L, peek y L with
    | some p, some q => outO L (getO p q)
    | _, _ => .bad
  | .slice a lo hi, ρ, L => (eE P a ρ L).bind fun x L => (eEo P lo ρ L).bind fun l L => (eEo P hi ρ L).bind fun h L => match peek x L with
    | some p => outO L (sliceO p l h)
    | none => .bad
  | .call m f es, ρ, L => (eEs P es ρ L).bind fun ws L => callR m (P.fn f) ws L
  | .callk m f es ks, ρ, L => (eEs P es ρ L).bind fun ws L => (eEs P ks ρ L).bind fun zs L => callR m (P.fn f) (ws ++ zs) L
  | .bn m b es, ρ, L => (eEs P es ρ L).bind fun ws L => match peeks ws L with
    | some ds => match bnO b ds with
      | some d => fresh m d L
      | none => .bad
    | none => .bad
  | .mn m b o es, ρ, L => (eE P o ρ L).bind fun w L => if mnPre b w L then (eEs P es ρ L).bind fun ws L => match peek w L, peeks ws L with
      | some x, some ds => match mnO b x ds with
        | some d => fresh m d L
        | none => .bad
      | _, _ => .bad
    else .bad
  | .app o e, ρ, L => (eE P o ρ L).bind fun w L => match lstAt w L with
    | none => .bad
    | some _ => (eE P e ρ L).bind fun x L => match asD x L with
      | none => .bad
      | some (d, L) => match lstAt w L with
        | some (n, xs) => if xs.length < SZ then .ok (.d .non) (L.set n (.lst (xs ++ [d]))) else .bad
        | none => .bad
  | .ext o e, ρ, L => (eE P o ρ L).bind fun w L => match lstAt w L with
    | none => .bad
    | some _ => (eE P e ρ L).bind fun x L => match asD x L with
      | some (.lst ds, L) => (match lstAt w L with
        | some (n, xs) => if xs.length + ds.length ≤ SZ then .ok (.d .non) (L.set n (.lst (xs ++ ds))) else .bad
        | none => .bad)
      | _ => .bad
  | .comp m own tg it ifs elt, ρ, L => (eI P it ρ L).bind fun ds L => if ds.length ≤ SZ then
      ((compLoop (fun x L => match asg tg (.d x) (wipeE ρ own) L with
        | some ρ' => (eTs P ifs ρ' L).bind fun c L => if c then (eE P elt ρ' L).bind fun w L => (asD1 w L).bind fun d L => .ok (some d) L else .ok none L
        | none => .bad) ds L).calm).bind fun r L => fresh m (.lst r) L
    else .bad
def eEs (P : Pr) : List IE → Env → List Obj → R (List W)
  | [], _, L => .ok [] L
  | e :: es, ρ, L => (eE P e ρ L).bind fun w L => (eEs P es ρ L).bind fun ws L => .ok (w :: ws) L
def eEo (P : Pr) : Option IE → Env → List Obj → R (Option Int)
  | none, _, L => .ok none L
  | some e, ρ, L => (eE P e ρ L).bind fun w L => match w with
    | .d (.int i) => .ok (some i) L
    | _ => .bad
def eTs (P : Pr) : List IE → Env → List Obj → R Bool
  | [], _, L => .ok true L
  | e :: es, ρ, L => (eE P e ρ L).bind fun w L => (truthR w L).bind fun c L => if c then eTs P es ρ L else .ok false L
def eI (P : Pr) : It → Env → List Obj → R (List D)
  | .val e, ρ, L => (eE P e ρ L).bind fun w L => (asD1 w L).bind fun d L => match itemsO d with
    | some ds => .ok ds L
    | none => .bad
  | .rng1 e, ρ, L => (eE P e ρ L).bind fun w L => match w with
    | .d (.int j) => match rangeO 0 j with
      | some ds => .ok ds L
      | none => .bad
    | _ => .bad
  | .zip a b, ρ, L => (eE P a ρ L).bind fun x L => (eE P b ρ L).bind fun y L => (asD1 x L).bind fun d L => (asD1 y L).bind fun d' L => match zipO d d' with
    | some ds => .ok ds L
    | none => .bad
  | .enum a, ρ, L => (eE P a ρ L).bind fun x L => (asD1 x L).bind fun d L => match d with
    | .lst xs => .ok (enumL 0 xs) L
    | _ => .bad
  | .rng2 a b, ρ, L => (eE P a ρ L).bind fun x L => (eE P b ρ L).bind fun y L => match x, y with
    | .d (.int i), .d (.int j) => match rangeO i j with
      | some ds => .ok ds L
      | none => .bad
    | _, _ => .bad
end

/-- op= of what never changes -/
def augO : BOp → D → D → Option D
  | .add, .int i, .int j => some (.int (i + j))
  | .sub, .int i, .int j => some (.int (i - j))
  | .add, .str a, .str b => if a.length + b.length ≤ SZ then some (.str (a ++ b)) else none
  | _, _, _ => none
def eH : HE → Option D → Option D
  | .con d, _ => some d
  | .arg, x => x
  | .plus a b, x => (eH a x).bind fun p => (eH b x).bind fun q => match p, q with
    | .str s, .str t => if s.length + t.length ≤ SZ then some (.str (s ++ t)) else none
    | _, _ => none
  | .rep a, x => (eH a x).bind fun p => (reprO p).map .str
inductive Fl where
  | nx | rt (w : W) | bk | ct
inductive RS where
  | ok (f : Fl) (ρ : Env) (L : List Obj)
  | err (x : Exc) (ρ : Env) (L : List Obj)
  | bad
def R.st {α : Type} (ρ : Env) : R α → (α → List Obj → RS) → RS
  | .ok a L, f => f a L
  | .err x L, _ => .err x ρ L
  | .bad, _ => .bad
def RS.seq : RS → (Env → List Obj → RS) → RS
  | .ok .nx ρ L, f => f ρ L
  | r, _ => r
/-- a loop over the items -/
def forLoop (step : D → Env → List Obj → RS) : List D → Env → List Obj → RS
  | [], ρ, L => .ok .nx ρ L
  | x :: xs, ρ, L => match step x ρ L with
    | .ok .nx ρ' L' => forLoop step xs ρ' L'
    | .ok .ct ρ' L' => forLoop step xs ρ' L'
    | .ok .bk ρ' L' => .ok .nx ρ' L'
    | .ok (.rt w) ρ' L' => .ok (.rt w) ρ' L'
    | .err x ρ' L' => .err x ρ' L'
    | .bad => .bad
def whLoop (t : Env → List Obj → R Bool) (step : Env → List Obj → RS) : Nat → Env → List Obj → RS
  | 0, _, _ => .bad
  | n + 1, ρ, L => (t ρ L).st ρ fun c L => if c then
      match step ρ L with
      | .ok .nx ρ' L' => whLoop t step n ρ' L'
      | .ok .ct ρ' L' => whLoop t step n ρ' L'
      | .ok .bk ρ' L' => .ok .nx ρ' L'
      | .ok (.rt w) ρ' L' => .ok (.rt w) ρ' L'
      | .err x ρ' L' => .err x ρ' L'
      | .bad => .bad
    else .ok .nx ρ L
def setAll : List Nat → List W → Env → Option Env
  | [], [], ρ => some ρ
  | i :: is, w :: ws, ρ => setAll is ws (ρ.set i (some w))
  | _, _, _ => none
mutual
def eS (P : Pr) : IS → Env → List Obj → RS
  | .asg tg e, ρ, L => (eE P e ρ L).st ρ fun w L => match asg tg w ρ L with
    | some ρ' => .ok .nx ρ' L
    | none => .bad
  | .aug op i e, ρ, L => match ρ[i]? with
    | some (some x) => (eE P e ρ L).st ρ fun y L => match x, y with
      | .d p, .d q => match augO op p q with
        | some d => .ok .nx (ρ.set i (some (.d d))) L
        | none => .bad
      | _, _ => .bad
    | _ => .bad
  | .par is es, ρ, L => (eEs P es ρ L).st ρ fun ws L => match setAll is ws ρ with
    | some ρ' => .ok .nx ρ' L
    | none => .bad
  | .setI o i e, ρ, L => (eE P e ρ L).st ρ fun x L => (eE P o ρ L).st ρ fun w L => (eE P i ρ L).st ρ fun j L => match asD x L, w, j with
    | some (d, L), w, .d (.int k) => match lstAt w L with
      | some (n, xs) => match ixO xs.length k with
        | some m => .ok .nx ρ (L.set n (.lst (xs.set m d)))
        | none => .bad
      | none => .bad
    | _, _, _ => .bad
  | .ex e, ρ, L => (eE P e ρ L).st ρ fun _ L => .ok .nx ρ L
  | .ret e, ρ, L => (eE P e ρ L).st ρ fun w L => .ok (.rt w) ρ L
  | .retN, ρ, L => .ok (.rt (.d .non)) ρ L
  | .ifs t a b, ρ, L => (eE P t ρ L).st ρ fun w L => (truthR w L).st ρ fun c L => if c then eB P a ρ L else eB P b ρ L
  | .for_ tg it b, ρ, L => (eI P it ρ L).st ρ fun ds L => forLoop (fun x ρ L => match asg tg (.d x) ρ L with
    | some ρ' => eB P b ρ' L
    | none => .bad) ds ρ L
  | .wh n t b, ρ, L => whLoop (fun ρ L => (eE P t ρ L).bind fun w L => truthR w L) (fun ρ L => eB P b ρ L) n ρ L
  | .pass, ρ, L => .ok .nx ρ L
  | .brk, ρ, L => .ok .bk ρ L
  | .cont, ρ, L => .ok .ct ρ L
  | .raise c e, ρ, L => (eE P e ρ L).st ρ fun w L => match asD w L with
    | some (d, L) => .err ⟨c, some d⟩ ρ L
    | none => .bad
  | .raiseT c, ρ, L => .err ⟨c, none⟩ ρ L
  | .try_ b c i h, ρ, L => match eB P b ρ L with
    | .err x ρ' L' => if P.sub x.c c then (match i with
        | some j => if x.c = c ∧ j < ρ'.length then (match x.arg with
          | some d => (match eH h (some d) with
            | some r => .ok (.rt (.d r)) ρ' L'
            | none => .bad)
          | none => .bad) else .bad
        | none => (match h with
          | .con d => .ok (.rt (.d d)) ρ' L'
          | _ => .bad)) else .err x ρ' L'
    | .bad => .bad
    | .ok f ρ' L' => .ok f ρ' L'
def eB (P : Pr) : List IS → Env → List Obj → RS
  | [], ρ, L => .ok .nx ρ L
  | s :: ss, ρ, L => match eS P s ρ L with
    | .ok .nx ρ' L' => eB P ss ρ' L'
    | r => r
end
/-- a def: its names' places, its body -/
def startE (n : Nat) (ws : List W) : Env := ws.map some ++ List.replicate (n - ws.length) none
def runF (P : Pr) (n : Nat) (b : List IS) : Fn := fun ws L => match eB P b (startE n ws) L with
  | .ok (.rt w) _ L => .ok w L
  | .ok .nx _ L => .ok (.d .non) L
  | .ok _ _ _ => .bad
  | .err x _ L => .err x L
  | .bad => .bad
end EV

set_option maxRecDepth 100000
set_option maxHeartbeats 4000000
namespace EV
open PySem L2

/-- what stands behind the numbers of classes and of attributes -/
structure Lay where
  K : PySem.W.Frag
  cls : Nat → Option Addr
  an : Nat → Str
  ef : Nat → Option Str

abbrev S (s : T) : Str := ⟨s.toArray⟩
def KL (K : PySem.W.Frag) (a : Addr) (xs : List V) : Prop :=
  ∃ (o : PySem.Obj) (its : Array Value) (n : Nat), K.lookup a = some o ∧ o.cls = .type "list" ∧ o.dict = none ∧ o.data = .seq its n ∧ its.size ≤ sizeLine ∧ Vals xs its.toList
def KT (K : PySem.W.Frag) (a : Addr) (xs : List V) : Prop :=
  ∃ (o : PySem.Obj) (its : Array Value) (n : Nat), K.lookup a = some o ∧ o.cls = .type "tuple" ∧ o.data = .seq its n ∧ its.size ≤ sizeLine ∧ Vals xs its.toList
def SL (K : PySem.W.Frag) (av : Addr → Prop) (H : Hp) (a : Addr) (xs : List V) : Prop := H a = some (.lst xs) ∧ ¬ av a
def ST (K : PySem.W.Frag) (av : Addr → Prop) (H : Hp) (a : Addr) (xs : List V) : Prop := (Rd H a (.tup xs) ∧ ¬ av a) ∨ KT K a xs
theorem SL.sq {K : PySem.W.Frag} {av : Addr → Prop} {H : Hp} {a : Addr} {xs : List V} (h : SL K av H a xs) : SqL K H a xs := .inl (.inl h.1)
/-- the script's own list -/
def SS (K : PySem.W.Frag) (av : Addr → Prop) (H : Hp) (a : Addr) (xs : List V) : Prop := (Rd H a (.lst xs) ∧ ¬ av a) ∨ KL K a xs
theorem SS.sq {K : PySem.W.Frag} {av : Addr → Prop} {H : Hp} {a : Addr} {xs : List V} (h : SS K av H a xs) : SqL K H a xs := h.elim (fun z => .inl z.1) .inr
theorem ST.sq {K : PySem.W.Frag} {av : Addr → Prop} {H : Hp} {a : Addr} {xs : List V} (h : ST K av H a xs) : SqT K H a xs := h.elim (fun z => .inl z.1) .inr

/-- the heap goes on: what was not one's own to change stands -/
structure Grow (av av' : Addr → Prop) (H H' : Hp) : Prop where
  keep : ∀ a o, H a = some o → ¬ av a → H' a = some o
  new : ∀ a, av' a → av a ∨ H a = none
theorem Grow.rd {av av' : Addr → Prop} {H H' : Hp} (g : Grow av av' H H') {a : Addr} {u : HO} (r : Rd H a u) (n : ¬ av a) : Rd H' a u ∧ ¬ av' a := by
  have hn : H a ≠ none := by rcases r with r | ⟨o, r⟩ <;> rw [r] <;> exact fun z => by cases z
  refine ⟨?_, fun z => (g.new a z).elim n hn⟩
  rcases r with r | ⟨o, r⟩
  · exact .inl (g.keep a _ r n)
  · exact .inr ⟨o, g.keep a _ r n⟩

section
variable (Y : Lay) (av : Addr → Prop) (H : Hp)
mutual
/-- the value v is the data d -/
inductive RD : D → V → Prop
  | non : RD .non .non
  | bl (b : Bool) : RD (.bl b) (.bl b)
  | int (i : Int) : RD (.int i) (.int i)
  | str (s : T) : RD (.str s) (.str (S s))
  | tup {xs : List D} {a : Addr} {vs : List V} : ST Y.K av H a vs → RDs xs vs → RD (.tup xs) (.ref a)
  | lst {xs : List D} {a : Addr} {vs : List V} : SL Y.K av H a vs → RDs xs vs → RD (.lst xs) (.ref a)
  | dct {kvs : List (D × D)} {a : Addr} {es : List (Key × V)} : H a = some (.dK es) → ¬ av a → RDk kvs es → RD (.dct kvs) (.ref a)
  | ins {c : Nat} {fs : List (Nat × D)} {a C dx : Addr} {gs : List (Str × V)} : Y.cls c = some C → H a = some (.ins C dx gs) → ¬ av a → RDf fs gs → RD (.ins c fs) (.ref a)
  | scr {ns : List Int} {a : Addr} : SS Y.K av H a (ns.map V.int) → RD (.scr ns) (.ref a)
inductive RDs : List D → List V → Prop
  | nil : RDs [] []
  | cons {x : D} {v : V} {xs : List D} {vs : List V} : RD x v → RDs xs vs → RDs (x :: xs) (v :: vs)
inductive RDk : List (D × D) → List (Key × V) → Prop
  | nil : RDk [] []
  | cons {k x : D} {q : Key} {v : V} {r : List (D × D)} {es : List (Key × V)} : keyD k = some q → RD x v → RDk r es → RDk ((k, x) :: r) ((q, v) :: es)
inductive RDf : List (Nat × D) → List (Str × V) → Prop
  | nil : RDf [] []
  | cons {k : Nat} {x : D} {v : V} {r : List (Nat × D)} {gs : List (Str × V)} : RD x v → RDf r gs → RDf ((k, x) :: r) ((Y.an k, v) :: gs)
end
end
section
variable {Y : Lay} {av av' : Addr → Prop} {H H' : Hp}
theorem Grow.sl (g : Grow av av' H H') {a : Addr} {vs : List V} (h : SL Y.K av H a vs) : SL Y.K av' H' a vs := ⟨g.keep a _ h.1 h.2, fun z => (g.new a z).elim h.2 (by rw [h.1]; exact fun z => by cases z)⟩
theorem Grow.st (g : Grow av av' H H') {a : Addr} {vs : List V} (h : ST Y.K av H a vs) : ST Y.K av' H' a vs := h.imp (fun z => g.rd z.1 z.2) id
theorem Grow.at (g : Grow av av' H H') {a : Addr} {o : HO} (h : H a = some o) (n : ¬ av a) : H' a = some o ∧ ¬ av' a :=
  ⟨g.keep a o h n, fun z => (g.new a z).elim n (by rw [h]; exact fun z => by cases z)⟩
theorem Grow.scr (g : Grow av av' H H') {a : Addr} {vs : List V} (h : SS Y.K av H a vs) : SS Y.K av' H' a vs := h.imp (fun z => g.rd z.1 z.2) id
mutual
theorem RD.grow (g : Grow av av' H H') : ∀ {d : D} {v : V}, RD Y av H d v → RD Y av' H' d v
  | _, _, .non => .non
  | _, _, .bl b => .bl b
  | _, _, .int i => .int i
  | _, _, .str s => .str s
  | _, _, .tup h r => .tup (g.st h) (RDs.grow g r)
  | _, _, .lst h r => .lst (g.sl h) (RDs.grow g r)
  | _, _, .dct h n r => .dct (g.at h n).1 (g.at h n).2 (RDk.grow g r)
  | _, _, .ins c h n r => .ins c (g.at h n).1 (g.at h n).2 (RDf.grow g r)
  | _, _, .scr h => .scr (g.scr h)
theorem RDs.grow (g : Grow av av' H H') : ∀ {ds : List D} {vs : List V}, RDs Y av H ds vs → RDs Y av' H' ds vs
  | _, _, .nil => .nil
  | _, _, .cons r rs => .cons (RD.grow g r) (RDs.grow g rs)
theorem RDk.grow (g : Grow av av' H H') : ∀ {ds : List (D × D)} {vs : List (Key × V)}, RDk Y av H ds vs → RDk Y av' H' ds vs
  | _, _, .nil => .nil
  | _, _, .cons k r rs => .cons k (RD.grow g r) (RDk.grow g rs)
theorem RDf.grow (g : Grow av av' H H') : ∀ {ds : List (Nat × D)} {vs : List (Str × V)}, RDf Y av H ds vs → RDf Y av' H' ds vs
  | _, _, .nil => .nil
  | _, _, .cons r rs => .cons (RD.grow g r) (RDf.grow g rs)
end
theorem RDs.length : ∀ {ds : List D} {vs : List V}, RDs Y av H ds vs → vs.length = ds.length
  | _, _, .nil => rfl
  | _, _, .cons _ rs => by rw [List.length_cons, List.length_cons, RDs.length rs]
theorem RDs.get : ∀ {ds : List D} {vs : List V} {i : Nat} {d : D}, RDs Y av H ds vs → ds[i]? = some d → ∃ v, vs[i]? = some v ∧ RD Y av H d v
  | _, _, _, _, .nil, e => by simp at e
  | _, _, 0, _, .cons r _, e => ⟨_, rfl, by simp at e; subst e; exact r⟩
  | _, _, i + 1, _, .cons _ rs, e => RDs.get (i := i) rs (by simpa using e)
theorem RDs.get' : ∀ {ds : List D} {vs : List V} {i : Nat} {v : V}, RDs Y av H ds vs → vs[i]? = some v → ∃ d, ds[i]? = some d ∧ RD Y av H d v
  | _, _, _, _, .nil, e => by simp at e
  | _, _, 0, _, .cons r _, e => ⟨_, rfl, by simp at e; subst e; exact r⟩
  | _, _, i + 1, _, .cons _ rs, e => RDs.get' (i := i) rs (by simpa using e)
theorem RDs.append : ∀ {a b : List D} {u v : List V}, RDs Y av H a u → RDs Y av H b v → RDs Y av H (a ++ b) (u ++ v)
  | _, _, _, _, .nil, s => s
  | _, _, _, _, .cons r t, s => .cons r (RDs.append t s)
theorem RDs.drop : ∀ {a : List D} {u : List V} (n : Nat), RDs Y av H a u → RDs Y av H (a.drop n) (u.drop n)
  | _, _, 0, r => r
  | _, _, _ + 1, .nil => .nil
  | _, _, n + 1, .cons _ t => RDs.drop n t
theorem RDs.take : ∀ {a : List D} {u : List V} (n : Nat), RDs Y av H a u → RDs Y av H (a.take n) (u.take n)
  | _, _, 0, _ => .nil
  | _, _, _ + 1, .nil => .nil
  | _, _, n + 1, .cons r t => .cons r (RDs.take n t)
theorem RDs.set {x : D} {v : V} (r : RD Y av H x v) : ∀ {a : List D} {u : List V} (n : Nat), RDs Y av H a u → RDs Y av H (a.set n x) (u.set n v)
  | _, _, _, .nil => .nil
  | _, _, 0, .cons _ t => .cons r t
  | _, _, n + 1, .cons q t => .cons q (RDs.set r n t)
end

def av (fg : Addr → Prop) (ι : List Addr) (L : List Obj) : Addr → Prop := fun a => fg a ∨ ∃ (n : Nat) (o : Obj), ι[n]? = some a ∧ L[n]? = some o ∧ live o = true
section
variable (Y : Lay) (fg : Addr → Prop) (ι : List Addr) (L : List Obj) (H : Hp)
def RW : W → V → Prop
  | .d x, v => RD Y (av fg ι L) H x v
  | .loc n, v => ∃ a, v = .ref a ∧ ι[n]? = some a
inductive RWs : List W → List V → Prop
  | nil : RWs [] []
  | cons {x : W} {v : V} {xs : List W} {vs : List V} : RW Y fg ι L H x v → RWs xs vs → RWs (x :: xs) (v :: vs)
inductive RWf : List (Nat × W) → List (Str × V) → Prop
  | nil : RWf [] []
  | cons {k : Nat} {x : W} {v : V} {r : List (Nat × W)} {gs : List (Str × V)} : RW Y fg ι L H x v → RWf r gs → RWf ((k, x) :: r) ((Y.an k, v) :: gs)
def RO : Obj → Addr → Prop
  | .lst xs, a => ∃ vs, H a = some (.lst vs) ∧ RDs Y (av fg ι L) H xs vs
  | .dct kvs, a => ∃ es, H a = some (.dK es) ∧ RDk Y (av fg ι L) H kvs es
  | .ins c fs, a => ∃ C dx gs, Y.cls c = some C ∧ H a = some (.ins C dx gs) ∧ RWf Y fg ι L H fs gs
  | .frz d, a => RD Y (av fg ι L) H d (.ref a)
structure Sim : Prop where
  len : ι.length = L.length
  nd : ι.Nodup
  obj : ∀ (n : Nat) (a : Addr) (o : Obj), ι[n]? = some a → L[n]? = some o → RO Y fg ι L H o a
  fgn : ∀ a, fg a → H a ≠ none
  fgi : ∀ a ∈ ι, ¬ fg a
  dom : ∀ a ∈ ι, H a ≠ none
/-- the names' values -/
structure RSl (ρ : Env) (σ : St) : Prop where
  len : ρ.length = σ.length
  get : ∀ (i : Nat) (w : W), ρ[i]? = some (some w) → ∃ v, σ[i]? = some (some v) ∧ RW Y fg ι L H w v
end
structure Ext (fg : Addr → Prop) (ι : List Addr) (L : List Obj) (H : Hp) (ι' : List Addr) (L' : List Obj) (H' : Hp) : Prop where
  pre : ∃ t, ι' = ι ++ t
  keep : ∀ a o, H a = some o → ¬ av fg ι L a → H' a = some o
  new : ∀ a, av fg ι' L' a → av fg ι L a ∨ H a = none
  newi : ∀ a ∈ ι', a ∈ ι ∨ H a = none
  frm : ∀ a o, H a = some o → a ∉ ι → H' a = some o

section
variable {Y : Lay} {fg : Addr → Prop} {ι ι1 ι2 : List Addr} {L L1 L2 : List Obj} {H H1 H2 : Hp}
theorem Ext.refl : Ext fg ι L H ι L H := ⟨⟨[], by simp⟩, fun _ _ h _ => h, fun _ h => .inl h, fun _ h => .inl h, fun _ _ h _ => h⟩
theorem Ext.trans (e : Ext fg ι L H ι1 L1 H1) (f : Ext fg ι1 L1 H1 ι2 L2 H2) : Ext fg ι L H ι2 L2 H2 := by
  obtain ⟨t, rfl⟩ := e.pre
  obtain ⟨u, rfl⟩ := f.pre
  refine ⟨⟨t ++ u, by simp⟩, fun a o h n => ?_, fun a h => ?_, fun a h => ?_, fun a o h n => ?_⟩
  · exact f.keep a o (e.keep a o h n) fun z => (e.new a z).elim n (by rw [h]; exact fun z => by cases z)
  · rcases f.new a h with z | z
    · exact e.new a z
    · cases q : H a with
      | none => exact .inr rfl
      | some o =>
        by_cases n : av fg ι L a
        · exact .inl n
        · rw [e.keep a o q n] at z; cases z
  · rcases f.newi a h with z | z
    · exact e.newi a z
    · cases q : H a with
      | none => exact .inr rfl
      | some o =>
        by_cases n : a ∈ ι
        · exact .inl n
        · rw [e.frm a o q n] at z; cases z
  · refine f.frm a o (e.frm a o h n) fun z => ?_
    rcases e.newi a z with q | q
    · exact n q
    · rw [h] at q; cases q
theorem Ext.grow (e : Ext fg ι L H ι1 L1 H1) : Grow (av fg ι L) (av fg ι1 L1) H H1 := ⟨e.keep, e.new⟩
theorem RW.ext (e : Ext fg ι L H ι1 L1 H1) : ∀ {w : W} {v : V}, RW Y fg ι L H w v → RW Y fg ι1 L1 H1 w v
  | .d _, _, r => RD.grow e.grow r
  | .loc n, _, ⟨a, h, q⟩ => by
    obtain ⟨t, rfl⟩ := e.pre
    exact ⟨a, h, by rw [List.getElem?_append_left ((List.getElem?_eq_some_iff.mp q).1)]; exact q⟩
theorem RWs.ext (e : Ext fg ι L H ι1 L1 H1) : ∀ {w : List W} {v : List V}, RWs Y fg ι L H w v → RWs Y fg ι1 L1 H1 w v
  | _, _, .nil => .nil
  | _, _, .cons r rs => .cons (r.ext e) (RWs.ext e rs)
theorem RWf.ext (e : Ext fg ι L H ι1 L1 H1) : ∀ {w : List (Nat × W)} {v : List (Str × V)}, RWf Y fg ι L H w v → RWf Y fg ι1 L1 H1 w v
  | _, _, .nil => .nil
  | _, _, .cons r rs => .cons (r.ext e) (RWf.ext e rs)
theorem RSl.ext {ρ : Env} {σ : St} (e : Ext fg ι L H ι1 L1 H1) (r : RSl Y fg ι L H ρ σ) : RSl Y fg ι1 L1 H1 ρ σ :=
  ⟨r.len, fun i w h => let ⟨v, a, b⟩ := r.get i w h; ⟨v, a, b.ext e⟩⟩
theorem RSl.set {ρ : Env} {σ : St} {w : W} {v : V} (r : RSl Y fg ι L H ρ σ) (i : Nat) (h : RW Y fg ι L H w v) : RSl Y fg ι L H (ρ.set i (some w)) (σ.set i (some v)) := by
  refine ⟨by simp [r.len], fun j u e => ?_⟩
  by_cases hj : i = j
  · subst hj
    by_cases hl : i < ρ.length
    · rw [List.getElem?_set_self hl] at e
      cases e
      exact ⟨v, List.getElem?_set_self (by rw [← r.len]; exact hl), h⟩
    · rw [List.getElem?_eq_none (by simpa using hl)] at e; cases e
  · rw [List.getElem?_set_ne hj] at e
    rw [List.getElem?_set_ne hj]
    exact r.get j u e
theorem RSl.unset {ρ : Env} {σ : St} (r : RSl Y fg ι L H ρ σ) (i : Nat) : RSl Y fg ι L H (ρ.set i none) (σ.set i none) := by
  refine ⟨by simp [r.len], fun j u e => ?_⟩
  by_cases hj : i = j
  · subst hj
    by_cases hl : i < ρ.length
    · rw [List.getElem?_set_self hl] at e; cases e
    · rw [List.getElem?_eq_none (by simpa using hl)] at e; cases e
  · rw [List.getElem?_set_ne hj] at e
    rw [List.getElem?_set_ne hj]
    exact r.get j u e
theorem RSl.wipe {ρ : Env} {σ : St} (r : RSl Y fg ι L H ρ σ) : ∀ vs : List Nat, RSl Y fg ι L H (wipeE ρ vs) (_root_.L2.wipe σ vs)
  | [] => r
  | v :: vs => (RSl.wipe r vs).unset v
/-- changed slots alone: what is forgotten in the other list -/
theorem Sim.av_dom (s : Sim Y fg ι L H) {a : Addr} (h : av fg ι L a) : H a ≠ none := by
  rcases h with h | ⟨n, o, h, _⟩
  · exact s.fgn a h
  · exact s.dom a (List.mem_of_getElem? h)
theorem Sim.fresh_av (s : Sim Y fg ι L H) {p : Addr} (h : H p = none) : ¬ av fg ι L p := fun z => s.av_dom z h

/-- a new object that is data: nothing of one's own comes -/
theorem Sim.laid (s : Sim Y fg ι L H) {p : Addr} (o : HO) (h : H p = none) : Ext fg ι L H ι L (upd H p o) ∧ Sim Y fg ι L (upd H p o) := by
  have e : Ext fg ι L H ι L (upd H p o) := ⟨⟨[], by simp⟩, fun a u q _ => by rw [upd_ne (ne_of_none q h)]; exact q, fun _ z => .inl z, fun _ z => .inl z, fun a u q _ => by rw [upd_ne (ne_of_none q h)]; exact q⟩
  have dm : ∀ a, H a ≠ none → upd H p o a ≠ none := fun a q z => by
    by_cases n : a = p
    · subst n; exact q h
    · rw [upd_ne n] at z; exact q z
  refine ⟨e, s.len, s.nd, fun n a ob h1 h2 => ?_, fun a z => dm a (s.fgn a z), s.fgi, fun a z => dm a (s.dom a z)⟩
  have r := s.obj n a ob h1 h2
  cases ob with
  | lst xs =>
    obtain ⟨vs, q, r⟩ := r
    exact ⟨vs, by rw [upd_ne (ne_of_none q h)]; exact q, r.grow e.grow⟩
  | dct xs =>
    obtain ⟨vs, q, r⟩ := r
    exact ⟨vs, by rw [upd_ne (ne_of_none q h)]; exact q, r.grow e.grow⟩
  | ins c xs =>
    obtain ⟨C, dx, gs, q1, q2, r⟩ := r
    exact ⟨C, dx, gs, q1, by rw [upd_ne (ne_of_none q2 h)]; exact q2, r.ext e⟩
  | frz d => exact RD.grow e.grow r
end
end EV

set_option maxRecDepth 100000
set_option maxHeartbeats 4000000
namespace EV
open PySem L2

/-- an exception of a class of one's own, and what it keeps -/
def RX (Y : Lay) (fg : Addr → Prop) (ι : List Addr) (L : List Obj) (H : Hp) (x : Exc) (c : Value) (d : Option Addr) : Prop :=
  ∃ C, Y.cls x.c = some C ∧ c = .ref C ∧ match x.arg with
    | none => True
    | some a => ∃ dx f v, d = some dx ∧ Y.ef x.c = some f ∧ H dx = some (.xd [(f, v)]) ∧ RD Y (av fg ι L) H a v
abbrev Wish := Value → Option Addr → Hp → Prop
/-- what follows from a result, wherever the heap has gone -/
def Pq {α : Type} (Y : Lay) (fg : Addr → Prop) (ι : List Addr) (L : List Obj) (H : Hp) (r : R α) (k : α → List Addr → List Obj → Hp → Prop) (w : Wish) : Prop :=
  match r with
  | .ok a L' => ∀ ι' H', Ext fg ι L H ι' L' H' → Sim Y fg ι' L' H' → k a ι' L' H'
  | .err x L' => ∀ c d ι' H', Ext fg ι L H ι' L' H' → Sim Y fg ι' L' H' → RX Y fg ι' L' H' x c d → w c d H'
  | .bad => False
section
variable {Y : Lay} {fg : Addr → Prop} {ι ι1 : List Addr} {L L1 : List Obj} {H H1 : Hp} {α β : Type}
theorem Pq.bind {r : R α} {f : α → List Obj → R β} {k : β → List Addr → List Obj → Hp → Prop} {w : Wish} (h : Pq Y fg ι L H (r.bind f) k w) :
    Pq Y fg ι L H r (fun a ι1 L1 H1 => Pq Y fg ι1 L1 H1 (f a L1) k w) w := by
  cases r with
  | ok a L1 =>
    intro ι1 H1 e s
    have h' : Pq Y fg ι L H (f a L1) k w := h
    cases q : f a L1 with
    | ok b L2 =>
      rw [q] at h'
      exact fun ι2 H2 e2 s2 => h' ι2 H2 (e.trans e2) s2
    | err x L2 =>
      rw [q] at h'
      exact fun c d ι2 H2 e2 s2 r2 => h' c d ι2 H2 (e.trans e2) s2 r2
    | bad => rw [q] at h'; exact h'
  | err x L1 => exact h
  | bad => exact h
theorem Pq.mono {r : R α} {k k' : α → List Addr → List Obj → Hp → Prop} {w w' : Wish} (h : Pq Y fg ι L H r k w) (hk : ∀ a ι' L' H', Ext fg ι L H ι' L' H' → Sim Y fg ι' L' H' → k a ι' L' H' → k' a ι' L' H')
    (hw : ∀ c d H', w c d H' → w' c d H') : Pq Y fg ι L H r k' w' := by
  cases r with
  | ok a L1 => exact fun ι1 H1 e s => hk _ _ _ _ e s (h ι1 H1 e s)
  | err x L1 => exact fun c d ι1 H1 e s r => hw _ _ _ (h c d ι1 H1 e s r)
  | bad => exact h
theorem Pq.ok {a : α} {k : α → List Addr → List Obj → Hp → Prop} {w : Wish} (s : Sim Y fg ι L H) (h : Pq Y fg ι L H (.ok a L) k w) : k a ι L H := h ι H .refl s
end

section
variable (Y : Lay) (X : Cx)
/-- an expression's reading by its meaning -/
def rdE {α : Type} (rel : (Addr → Prop) → List Addr → List Obj → Hp → α → V → Prop) (m : Env → List Obj → R α) (w : WX) : TE := fun σ H Q => ∃ fg ι L ρ, Sim Y fg ι L H ∧ RSl Y fg ι L H ρ σ ∧
  Pq Y fg ι L H (m ρ L) (fun a ι' L' H' => ∀ v, rel fg ι' L' H' a v → Q v H') (fun c d H' => w c d σ H')
abbrev rd (m : Env → List Obj → R W) (w : WX) : TE := rdE Y (fun fg ι L H => RW Y fg ι L H) m w
def rdT (m : Env → List Obj → R Bool) (w : WX) : TT := fun σ H Q => ∃ fg ι L ρ, Sim Y fg ι L H ∧ RSl Y fg ι L H ρ σ ∧
  Pq Y fg ι L H (m ρ L) (fun a _ _ H' => Q a H') (fun c d H' => w c d σ H')
def rdA (m : Env → List Obj → R (List W)) (w : WX) : TA := fun σ H Q => ∃ fg ι L ρ, Sim Y fg ι L H ∧ RSl Y fg ι L H ρ σ ∧
  Pq Y fg ι L H (m ρ L) (fun a ι' L' H' => ∀ vs, RWs Y fg ι' L' H' a vs → Q vs H') (fun c d H' => w c d σ H')
def JE (e : Expr) (m : Env → List Obj → R W) : Prop := ∀ w, Takes X w → PE X e (rd Y m w)
def JT (e : Expr) (m : Env → List Obj → R Bool) : Prop := ∀ w, Takes X w → PT X e (rdT Y m w)
def JA (es : List Expr) (m : Env → List Obj → R (List W)) : Prop := ∀ w, Takes X w → PA X es (rdA Y m w)
/-- the same heap, or with one new object -/
def Laid1 (H H' : Hp) : Prop := H' = H ∨ ∃ (t : Addr) (o : HO), H t = none ∧ H' = upd H t o
theorem laid_ok {Y : Lay} {fg : Addr → Prop} {ι : List Addr} {L : List Obj} {H H' : Hp} (s : Sim Y fg ι L H) (h : Laid1 H H') : Ext fg ι L H ι L H' ∧ Sim Y fg ι L H' := by
  rcases h with rfl | ⟨t, o, h, rfl⟩
  · exact ⟨.refl, s⟩
  · exact s.laid o h
/-- what walks the items ds, wherever the heap goes from here -/
structure Walked (av₀ : Addr → Prop) (H : Hp) (J : L2.It) (ds : List D) : Prop where
  go : ∀ av' H', Grow av₀ av' H H' → ∀ i, i < ds.length → J.go i H'
  yld : ∀ av' H', Grow av₀ av' H H' → (∀ a, av' a → H' a ≠ none) → ∀ i d x H2, ds[i]? = some d → J.yld i H' x H2 → Laid1 H' H2 ∧ RD Y av' H2 d x
  stop : ∀ av' H', Grow av₀ av' H H' → ∀ i, ds.length ≤ i → J.stop i H'
def rdI (m : Env → List Obj → R (List D)) (w : WX) : TI := fun σ H Q => ∃ fg ι L ρ, Sim Y fg ι L H ∧ RSl Y fg ι L H ρ σ ∧
  Pq Y fg ι L H (m ρ L) (fun ds ι' L' H' => ∀ J, Walked Y (EV.av fg ι' L') H' J ds → Q J H') (fun c d H' => w c d σ H')
def JI (tg e : Expr) (m : Env → List Obj → R (List D)) : Prop := ∀ w, Takes X w → PI X tg e (rdI Y m w)
/-- a target -/
def rdG (m : W → Env → List Obj → Option Env) : TG := fun v σ H Q => ∃ fg ι L ρ d, Sim Y fg ι L H ∧ RSl Y fg ι L H ρ σ ∧ RW Y fg ι L H d v ∧ ∃ ρ', m d ρ L = some ρ' ∧ ∀ σ', RSl Y fg ι L H ρ' σ' → Q σ' H
def JG (e : Expr) (m : W → Env → List Obj → Option Env) : Prop := PG X e (rdG Y m)
end
section
variable {X : Cx} {e : Expr}
theorem PE.imp {t t' : TE} (h : PE X e t) (k : ∀ σ H Q, t' σ H Q → t σ H Q) : PE X e t' := ⟨fun pins s σ H Q I q => h.run pins s σ H Q I (k _ _ _ q)⟩
theorem PT.imp {t t' : TT} (h : PT X e t) (k : ∀ σ H Q, t' σ H Q → t σ H Q) : PT X e t' := ⟨fun pins s σ H Q I q => h.run pins s σ H Q I (k _ _ _ q)⟩
theorem PW.imp {t t' : TT} (h : PW X e t) (k : ∀ σ H Q, t' σ H Q → t σ H Q) : PW X e t' := ⟨fun wh pins s σ H Q I q => h.run wh pins s σ H Q I (k _ _ _ q)⟩
theorem PA.imp {es : List Expr} {t t' : TA} (h : PA X es t) (k : ∀ σ H Q, t' σ H Q → t σ H Q) : PA X es t' := ⟨fun p pins s σ H Q I q => h.run p pins s σ H Q I (k _ _ _ q)⟩
theorem PI.imp {tg : Expr} {t t' : TI} (h : PI X tg e t) (k : ∀ σ H Q, t' σ H Q → t σ H Q) : PI X tg e t' := ⟨fun pins s σ H Q I q => h.run pins s σ H Q I (k _ _ _ q)⟩
theorem PG.imp {t t' : TG} (h : PG X e t) (k : ∀ v σ H Q, t' v σ H Q → t v σ H Q) : PG X e t' := ⟨fun pins s σ H v u Q I r q => h.run pins s σ H v u Q I r (k _ _ _ _ q)⟩
end

section
variable {Y : Lay} {X : Cx} {w : WX} {σ : St} {H : Hp}
/-- one part, then the rest -/
theorem rd.one {α β : Type} {rel : (Addr → Prop) → List Addr → List Obj → Hp → α → V → Prop} {fg : Addr → Prop} {ι : List Addr} {L : List Obj} {ρ : Env} {m : Env → List Obj → R α} {f : α → List Obj → R β} {k : β → List Addr → List Obj → Hp → Prop} {Q : VK}
    (s : Sim Y fg ι L H) (r : RSl Y fg ι L H ρ σ) (p : Pq Y fg ι L H ((m ρ L).bind f) k fun c d H' => w c d σ H')
    (h : ∀ a ι1 L1 H1 v, Ext fg ι L H ι1 L1 H1 → Sim Y fg ι1 L1 H1 → RSl Y fg ι1 L1 H1 ρ σ → rel fg ι1 L1 H1 a v → Pq Y fg ι1 L1 H1 (f a L1) k (fun c d H' => w c d σ H') → Q v H1) : rdE Y rel m w σ H Q :=
  ⟨fg, ι, L, ρ, s, r, p.bind.mono (fun a ι1 L1 H1 e s1 p1 v rv => h a ι1 L1 H1 v e s1 (r.ext e) rv p1) fun _ _ _ z => z⟩
theorem rdA.one {β : Type} {fg : Addr → Prop} {ι : List Addr} {L : List Obj} {ρ : Env} {m : Env → List Obj → R (List W)} {f : List W → List Obj → R β} {k : β → List Addr → List Obj → Hp → Prop} {Q : List V → Hp → Prop}
    (s : Sim Y fg ι L H) (r : RSl Y fg ι L H ρ σ) (p : Pq Y fg ι L H ((m ρ L).bind f) k fun c d H' => w c d σ H')
    (h : ∀ a ι1 L1 H1 v, Ext fg ι L H ι1 L1 H1 → Sim Y fg ι1 L1 H1 → RSl Y fg ι1 L1 H1 ρ σ → RWs Y fg ι1 L1 H1 a v → Pq Y fg ι1 L1 H1 (f a L1) k (fun c d H' => w c d σ H') → Q v H1) : rdA Y m w σ H Q :=
  ⟨fg, ι, L, ρ, s, r, p.bind.mono (fun a ι1 L1 H1 e s1 p1 v rv => h a ι1 L1 H1 v e s1 (r.ext e) rv p1) fun _ _ _ z => z⟩
theorem rdT.one {β : Type} {fg : Addr → Prop} {ι : List Addr} {L : List Obj} {ρ : Env} {m : Env → List Obj → R Bool} {f : Bool → List Obj → R β} {k : β → List Addr → List Obj → Hp → Prop} {Q : Bool → Hp → Prop}
    (s : Sim Y fg ι L H) (r : RSl Y fg ι L H ρ σ) (p : Pq Y fg ι L H ((m ρ L).bind f) k fun c d H' => w c d σ H')
    (h : ∀ a ι1 L1 H1, Ext fg ι L H ι1 L1 H1 → Sim Y fg ι1 L1 H1 → RSl Y fg ι1 L1 H1 ρ σ → Pq Y fg ι1 L1 H1 (f a L1) k (fun c d H' => w c d σ H') → Q a H1) : rdT Y m w σ H Q :=
  ⟨fg, ι, L, ρ, s, r, p.bind.mono (fun a ι1 L1 H1 e s1 p1 => h a ι1 L1 H1 e s1 (r.ext e) p1) fun _ _ _ z => z⟩
end
end EV

set_option maxRecDepth 100000
set_option maxHeartbeats 4000000
namespace EV
open PySem L2 PyProof.Rows
theorem S_append (a b : T) : S a ++ S b = S (a ++ b) := by
  show (⟨a.toArray ++ b.toArray⟩ : Str) = ⟨(a ++ b).toArray⟩
  simp
theorem S_length (a : T) : (S a).length = a.length := by
  show a.toArray.size = a.length
  simp
theorem S_inj {a b : T} (h : S a = S b) : a = b := by
  have h2 : a.toArray = b.toArray := congrArg Str.cps h
  simpa using h2
theorem S_cps (a : T) : (S a).cps.toList = a := rfl
theorem sz_eq : SZ = sizeLine := by rw [sizeLine_eq]
section
variable {Y : Lay} {fg : Addr → Prop} {ι : List Addr} {L : List Obj} {H : Hp}
/-- the data that the value v is now -/
def PK (Y : Lay) (fg : Addr → Prop) (ι : List Addr) (L : List Obj) (H : Hp) : D → V → Prop
  | .lst xs, v => ∃ a vs, v = .ref a ∧ H a = some (.lst vs) ∧ RDs Y (av fg ι L) H xs vs
  | .dct kvs, v => ∃ a es, v = .ref a ∧ H a = some (.dK es) ∧ RDk Y (av fg ι L) H kvs es
  | .ins c fs, v => ∃ a C dx gs, v = .ref a ∧ Y.cls c = some C ∧ H a = some (.ins C dx gs) ∧ RDf Y (av fg ι L) H fs gs
  | d, v => RD Y (av fg ι L) H d v
theorem PK.of : ∀ {d : D} {v : V}, RD Y (av fg ι L) H d v → PK Y fg ι L H d v
  | _, _, .non => .non
  | _, _, .bl b => .bl b
  | _, _, .int i => .int i
  | _, _, .str s => .str s
  | _, _, .tup h r => .tup h r
  | _, _, .lst h r => ⟨_, _, rfl, h.1, r⟩
  | _, _, .dct h n r => ⟨_, _, rfl, h, r⟩
  | _, _, .ins c h n r => ⟨_, _, _, _, rfl, c, h, r⟩
  | _, _, .scr h => .scr h
theorem RWf.data : ∀ {fs : List (Nat × W)} {gs : List (Str × V)} {ds : List (Nat × D)}, RWf Y fg ι L H fs gs → insD fs = some ds → RDf Y (av fg ι L) H ds gs
  | _, _, _, .nil, e => by
    simp only [insD, Option.some.injEq] at e
    subst e
    exact .nil
  | _, _, _, .cons (x := .d x) r rs, e => by
    simp only [insD, Option.map_eq_some_iff] at e
    obtain ⟨ds, e, rfl⟩ := e
    exact .cons r (RWf.data rs e)
  | _, _, _, .cons (x := .loc n) r rs, e => by simp [insD] at e
theorem peek_ok (s : Sim Y fg ι L H) {w : W} {v : V} {d : D} (r : RW Y fg ι L H w v) (e : peek w L = some d) : PK Y fg ι L H d v := by
  cases w with
  | d x =>
    simp only [peek, Option.some.injEq] at e
    subst e
    exact PK.of r
  | loc n =>
    obtain ⟨a, rfl, ha⟩ := r
    simp only [peek, Option.bind_eq_some_iff] at e
    obtain ⟨o, ho, e⟩ := e
    have q := s.obj n a o ha ho
    cases o with
    | lst xs =>
      simp only [Obj.data, Option.some.injEq] at e
      subst e
      obtain ⟨vs, h, r⟩ := q
      exact ⟨a, vs, rfl, h, r⟩
    | dct xs =>
      simp only [Obj.data, Option.some.injEq] at e
      subst e
      obtain ⟨vs, h, r⟩ := q
      exact ⟨a, vs, rfl, h, r⟩
    | ins c fs =>
      simp only [Obj.data, Option.map_eq_some_iff] at e
      obtain ⟨ds, e, rfl⟩ := e
      obtain ⟨C, dx, gs, h1, h2, r⟩ := q
      exact ⟨a, C, dx, gs, rfl, h1, h2, r.data e⟩
    | frz x =>
      simp only [Obj.data, Option.some.injEq] at e
      subst e
      exact PK.of q
theorem PK.ext {ι1 : List Addr} {L1 : List Obj} {H1 : Hp} (e : Ext fg ι L H ι1 L1 H1) : ∀ {d : D} {v : V}, RD Y (av fg ι L) H d v → PK Y fg ι1 L1 H1 d v := fun r => PK.of (RD.grow e.grow r)

/-- what a new result must bear -/
def Nw (Y : Lay) (fg : Addr → Prop) (ι : List Addr) (L : List Obj) (H : Hp) (d : D) (Q : VK) : Prop :=
  ∀ v H', Ext fg ι L H ι L H' → Sim Y fg ι L H' → RD Y (av fg ι L) H' d v → Q v H'
theorem Nw.same {d : D} {Q : VK} {v : V} (n : Nw Y fg ι L H d Q) (s : Sim Y fg ι L H) (r : RD Y (av fg ι L) H d v) : Q v H := n v H .refl s r
theorem Nw.lst {xs : List D} {vs : List V} {Q : VK} (n : Nw Y fg ι L H (.lst xs) Q) (s : Sim Y fg ι L H) (r : RDs Y (av fg ι L) H xs vs) {p : Addr} (h : H p = none) : Q (.ref p) (upd H p (.lst vs)) := by
  obtain ⟨e, s'⟩ := s.laid (.lst vs) h
  exact n _ _ e s' (.lst ⟨upd_same, s.fresh_av h⟩ (r.grow e.grow))
theorem Nw.tup {xs : List D} {vs : List V} {Q : VK} (n : Nw Y fg ι L H (.tup xs) Q) (s : Sim Y fg ι L H) (r : RDs Y (av fg ι L) H xs vs) {p : Addr} (h : H p = none) : Q (.ref p) (upd H p (.tup vs)) := by
  obtain ⟨e, s'⟩ := s.laid (.tup vs) h
  exact n _ _ e s' (.tup (.inl ⟨.inl upd_same, s.fresh_av h⟩) (r.grow e.grow))
theorem Nw.dct {xs : List (D × D)} {vs : List (Key × V)} {Q : VK} (n : Nw Y fg ι L H (.dct xs) Q) (s : Sim Y fg ι L H) (r : RDk Y (av fg ι L) H xs vs) {p : Addr} (h : H p = none) : Q (.ref p) (upd H p (.dK vs)) := by
  obtain ⟨e, s'⟩ := s.laid (.dK vs) h
  exact n _ _ e s' (.dct upd_same (s.fresh_av h) (r.grow e.grow))
end
section
variable {Y : Lay} {fg : Addr → Prop} {ι : List Addr} {L : List Obj} {H : Hp}
theorem PK.int {i : Int} {v : V} (h : PK Y fg ι L H (.int i) v) : v = .int i := by cases (show RD Y (av fg ι L) H (.int i) v from h); rfl
theorem PK.str {i : T} {v : V} (h : PK Y fg ι L H (.str i) v) : v = .str (S i) := by cases (show RD Y (av fg ι L) H (.str i) v from h); rfl
theorem PK.bl {i : Bool} {v : V} (h : PK Y fg ι L H (.bl i) v) : v = .bl i := by cases (show RD Y (av fg ι L) H (.bl i) v from h); rfl
theorem PK.non {v : V} (h : PK Y fg ι L H .non v) : v = .non := by cases (show RD Y (av fg ι L) H .non v from h); rfl
end

def bopOf : BOp → Operator
  | .add => .Add
  | .sub => .Sub
  | .mul => .Mult
  | .fdiv => .FloorDiv
  | .mod => .Mod
  | .pow => .Pow
section
variable {X : Cx} {Y : Lay}
/-- lists put together, of any origin -/
theorem op_catL : OpR X (binaryOp .Add) (fun x y H Q => ∃ l b xs zs, x = .ref l ∧ y = .ref b ∧ Rd H l (.lst xs) ∧ Rd H b (.lst zs) ∧ xs.length + zs.length ≤ sizeLine ∧ ∀ p, H p = none → Q (.ref p) (upd H p (.lst (xs ++ zs)))) := by
  intro pins s σ H x y v u Q I rx ry h
  obtain ⟨l, b, xs, zs, rfl, rfl, hH, hB, hz, q⟩ := h
  cases rx
  cases ry
  obtain ⟨z, its, n, r, e⟩ := hH.ok I.hok
  obtain ⟨z2, its2, n2, r2, e2⟩ := hB.ok I.hok
  have hl := r.length
  have hl2 := r2.length
  refine PySem.P.add_list e e2 ?_ (by rw [List.size_toArray, List.size_toArray]; omega)
  have ea : its.toArray ++ its2.toArray = (its ++ its2).toArray := by simp
  rw [ea]
  exact ⟨.ref _, _, I.lnew (t' := s.toks) (r.append r2) (by rw [List.length_append]; omega), rfl, q _ I.fresh⟩
theorem rep_len {α : Type} (n : Nat) (s : List α) : (rep n s).length = n * s.length := by
  unfold rep
  induction n with
  | zero => simp
  | succ n ih => rw [List.replicate_succ, List.flatten_cons, List.length_append, ih]; rw [Nat.succ_mul]; omega
theorem rep_arr (n : Nat) (s : T) : ((List.replicate n (S s).cps).foldl (· ++ ·) #[]) = (rep n s).toArray := by
  have h : ∀ (n : Nat) (acc : T), (List.replicate n (S s).cps).foldl (· ++ ·) acc.toArray = (acc ++ rep n s).toArray := by
    intro n
    induction n with
    | zero => intro acc; simp [rep]
    | succ n ih =>
      intro acc
      rw [List.replicate_succ, List.foldl_cons]
      have e : acc.toArray ++ (S s).cps = (acc ++ s).toArray := by simp
      rw [e, ih]
      unfold rep
      rw [List.replicate_succ, List.flatten_cons, List.append_assoc]
  have := h n []
  simpa using this
theorem op_repS : OpR X (binaryOp .Mult) (fun x y H Q => ∃ (a : T) (j : Int), x = .str (S a) ∧ y = .int j ∧ (-(2 ^ 62) < j ∧ j < 2 ^ 62) ∧ a.length * j.toNat ≤ sizeLine ∧ Q (.str (S (rep j.toNat a))) H) := by
  intro pins s σ H x y v u Q I rx ry h
  obtain ⟨a, j, rfl, rfl, ⟨j1, j2⟩, hz, q⟩ := h
  obtain ⟨t, rfl⟩ := rx
  obtain ⟨t', rfl⟩ := ry
  have hl : (S a).length = a.length := S_length a
  have hs := sizeLine_eq
  have fin : ∀ tk, EP X pins σ Q (.str (S (rep j.toNat a)) tk) s := fun tk => ⟨.str _, H, I, ⟨_, rfl⟩, q⟩
  have fin2 : ∀ tk, EP X pins σ Q (.str (S (rep j.toNat a)) tk) { s with toks := s.toks + 1 } := fun tk => ⟨.str _, H, I.tok _, ⟨_, rfl⟩, q⟩
  refine PySem.P.mul_str ?_ ?_ ?_ ?_
  · have h1 : ¬ j < -(2 ^ 63 : Int) := by omega
    have h2 : ¬ j ≥ 2 ^ 63 := by omega
    rw [decide_eq_false h1, decide_eq_false h2]; rfl
  · intro h1 h2 h3
    have hj : 0 < j := by omega
    have h4 : (2 ^ 63 - 1) / j < (a.length : Int) := by rw [hl] at h3; omega
    have h5 : (2 ^ 63 - 1 : Int) < (a.length : Int) * j := by
      have := Int.lt_ediv_add_one_mul_self (2 ^ 63 - 1) hj
      have h6 : (2 ^ 63 - 1 : Int) / j + 1 ≤ (a.length : Int) := by omega
      have h7 : ((2 ^ 63 - 1 : Int) / j + 1) * j ≤ (a.length : Int) * j := Int.mul_le_mul_of_nonneg_right h6 (by omega)
      omega
    have h8 : (a.length : Int) * j = ((a.length * j.toNat : Nat) : Int) := by
      rw [Int.natCast_mul, Int.toNat_of_nonneg (by omega)]
    omega
  · intro h1 h2
    unfold Builtin.Str.tooLong
    rw [hl]
    exact decide_eq_false (by omega)
  · by_cases h1 : j < 1
    · rw [if_pos h1]
      have e : j.toNat = 0 := by omega
      rw [e] at fin2
      exact ⟨by decide, fin2 _⟩
    · rw [if_neg h1]
      by_cases h2 : (j == 1 || (S a).length == 0) = true
      · rw [if_pos h2]
        have e : rep j.toNat a = a := by
          rw [Bool.or_eq_true] at h2
          rcases h2 with h2 | h2
          · have : j = 1 := by simpa using h2
            subst this
            simp [rep]
          · rw [hl] at h2
            have : a = [] := by simpa using h2
            subst this
            have : (rep j.toNat ([] : T)).length = 0 := by rw [rep_len]; simp
            exact List.eq_nil_of_length_eq_zero this
        rw [e] at fin
        exact fin _
      · rw [if_neg h2]
        have e : (List.replicate j.toNat (S a).cps).foldl (· ++ ·) #[] = (rep j.toNat a).toArray := rep_arr _ _
        rw [e]
        refine ⟨?_, fin2 _⟩
        show (rep j.toNat a).toArray.size ≤ sizeLine
        rw [List.size_toArray, rep_len, Nat.mul_comm]
        exact hz
theorem two_pow {i : Int} {n : Nat} (h : i.natAbs < 2 ^ n) : i.natAbs < 2 ^ n := h
/-- the reading of an operator of data -/
def rBin (Y : Lay) (op : BOp) : R2 := fun x y H Q => ∃ fg ι L p q d, Sim Y fg ι L H ∧ PK Y fg ι L H p x ∧ PK Y fg ι L H q y ∧ binO op p q = some d ∧ Nw Y fg ι L H d Q
theorem op_bin (hK : Y.K = X.K) (op : BOp) : OpR X (binaryOp (bopOf op)) (rBin Y op) := by
  intro pins s σ H x y v u Q I rx ry h
  obtain ⟨fg, ι, L, p, q, d, S0, px, qy, e, n⟩ := h
  unfold binO at e
  split at e
  case h_1 i j =>
    cases e
    exact op_add pins s σ H x y v u Q I rx ry ⟨i, j, px.int, qy.int, n.same S0 (.int _)⟩
  case h_2 a b =>
    split at e
    case isFalse => cases e
    case isTrue hz =>
      cases e
      refine op_add_str pins s σ H x y v u Q I rx ry ⟨_, _, px.str, qy.str, by rw [S_length, S_length, ← sz_eq]; exact hz, ?_⟩
      rw [S_append]
      exact n.same S0 (.str _)
  case h_3 a b =>
    split at e
    case isFalse => cases e
    case isTrue hz =>
      cases e
      obtain ⟨a1, vs, rfl, h1, r1⟩ := px
      obtain ⟨a2, ws, rfl, h2, r2⟩ := qy
      exact op_catL pins s σ H _ _ v u Q I rx ry ⟨_, _, _, _, rfl, rfl, .inl h1, .inl h2, by rw [r1.length, r2.length, ← sz_eq]; exact hz, fun p hp => n.lst S0 (r1.append r2) hp⟩
  case h_4 a b =>
    split at e
    case isFalse => cases e
    case isTrue hz =>
      cases e
      cases px with
      | tup h1 r1 =>
        cases qy with
        | tup h2 r2 =>
          have h1' := h1.sq
          have h2' := h2.sq
          rw [hK] at h1' h2'
          refine op_catA pins s σ H _ _ v u Q I rx ry ⟨_, _, _, _, rfl, rfl, h1', h2', by rw [r1.length, r2.length, ← sz_eq]; exact hz, fun z => ?_, fun z1 z2 => ?_, fun _ _ p hp => n.tup S0 (r1.append r2) hp⟩
          · subst z
            cases r1
            exact n.same S0 (.tup h2 r2)
          · subst z2
            cases r2
            rw [List.append_nil] at n
            exact n.same S0 (.tup h1 r1)
  case h_5 i j =>
    cases e
    exact op_sub pins s σ H x y v u Q I rx ry ⟨i, j, px.int, qy.int, n.same S0 (.int _)⟩
  case h_6 i j =>
    split at e
    case isFalse => cases e
    case isTrue hz =>
      cases e
      unfold bitsOk at hz
      rw [Bool.and_eq_true, decide_eq_true_eq, decide_eq_true_eq] at hz
      exact op_mulW pins s σ H x y v u Q I rx ry ⟨i, j, px.int, qy.int, wide_mul hz.1 hz.2 (by decide) (by decide) (by decide), n.same S0 (.int _)⟩
  case h_7 a j =>
    split at e
    case isFalse => cases e
    case isTrue hz =>
      cases e
      rw [Bool.and_eq_true, decide_eq_true_eq, decide_eq_true_eq] at hz
      exact op_repS pins s σ H x y v u Q I rx ry ⟨a, j, px.str, qy.int, hz.1, by rw [← sz_eq]; exact hz.2, n.same S0 (.str _)⟩
  case h_8 i j =>
    split at e
    case isFalse => cases e
    case isTrue hz =>
      cases e
      rw [Bool.and_eq_true, decide_eq_true_eq, decide_eq_true_eq] at hz
      exact op_fdivW pins s σ H x y v u Q I rx ry ⟨i, j, px.int, qy.int, wide_div hz.1 hz.2 (by decide) (by decide), n.same S0 (.int _)⟩
  case h_9 i j =>
    split at e
    case isFalse => cases e
    case isTrue hz =>
      cases e
      rw [decide_eq_true_eq] at hz
      exact op_mod pins s σ H x y v u Q I rx ry ⟨i, j, px.int, qy.int, hz, n.same S0 (.int _)⟩
  case h_10 i j =>
    split at e
    case isFalse => cases e
    case isTrue hz =>
      cases e
      rw [Bool.and_eq_true, Bool.and_eq_true, decide_eq_true_eq, decide_eq_true_eq, decide_eq_true_eq] at hz
      exact op_pow pins s σ H x y v u Q I rx ry ⟨i, j, px.int, qy.int, ⟨hz.1.1, hz.1.2, hz.2⟩, n.same S0 (.int _)⟩
  case h_11 => cases e
end
end EV

namespace EV
open PySem L2 PyProof.Rows
mutual
theorem py_lay : ∀ d : D, d.plain = true → d.py.canLay0 = true
  | .non, _ => rfl
  | .bl _, _ => rfl
  | .int _, _ => rfl
  | .str s, h => by
    simp only [D.plain] at h
    simp only [D.py, PyData.canLay0, PyData.strOk]
    simpa using h
  | .tup xs, h => by
    simp only [D.plain] at h
    simp only [D.py, PyData.canLay0]
    exact pys_lay xs h
  | .lst xs, h => by
    simp only [D.plain] at h
    simp only [D.py, PyData.canLay0]
    exact pys_lay xs h
  | .dct _, h => by simp [D.plain] at h
  | .ins _ _, h => by simp [D.plain] at h
  | .ty _, h => by simp [D.plain] at h
  | .cls _, h => by simp [D.plain] at h
  | .scr _, h => by simp [D.plain] at h
theorem pys_lay : ∀ ds : List D, plains ds = true → PyData.canLayAll0 (pys ds) = true
  | [], _ => rfl
  | x :: xs, h => by
    simp only [plains, Bool.and_eq_true] at h
    simp only [pys, PyData.canLayAll0, Bool.and_eq_true]
    exact ⟨py_lay x h.1, pys_lay xs h.2⟩
end
mutual
theorem py_deep : ∀ d : D, d.plain = true → d.py.depth = d.deep
  | .non, _ => rfl
  | .bl _, _ => rfl
  | .int _, _ => rfl
  | .str s, _ => rfl
  | .tup xs, h => by
    simp only [D.plain] at h
    simp only [D.py, PyData.depth, D.deep, pys_deep xs h]
  | .lst xs, h => by
    simp only [D.plain] at h
    simp only [D.py, PyData.depth, D.deep, pys_deep xs h]
  | .dct _, h => by simp [D.plain] at h
  | .ins _ _, h => by simp [D.plain] at h
  | .ty _, h => by simp [D.plain] at h
  | .cls _, h => by simp [D.plain] at h
  | .scr _, h => by simp [D.plain] at h
theorem pys_deep : ∀ ds : List D, plains ds = true → PyData.depthAll (pys ds) = deeps ds
  | [], _ => rfl
  | x :: xs, h => by
    simp only [plains, Bool.and_eq_true] at h
    simp only [pys, PyData.depthAll, deeps, py_deep x h.1, pys_deep xs h.2]
end
theorem S_beq (a b : T) : (S a == S b) = (a == b) := by
  by_cases h : a = b
  · subst h; simp
  · have h2 : ¬ S a = S b := fun z => h (S_inj z)
    rw [beq_eq_false_iff_ne.mpr h, beq_eq_false_iff_ne.mpr h2]
mutual
theorem py_eqv : ∀ a b : D, a.plain = true → b.plain = true → PyData.eqv a.py b.py = D.eqv a b
  | .non, b, _, hb => by cases b <;> first | (simp [D.plain] at hb; done) | rfl
  | .bl _, b, _, hb => by cases b <;> first | (simp [D.plain] at hb; done) | rfl
  | .int _, b, _, hb => by cases b <;> first | (simp [D.plain] at hb; done) | rfl
  | .str s, b, _, hb => by
    cases b with
    | str t => simp only [D.py, PyData.eqv, D.eqv, S_beq]
    | dct _ => simp [D.plain] at hb
    | ins _ _ => simp [D.plain] at hb
    | ty _ => simp [D.plain] at hb
    | cls _ => simp [D.plain] at hb
    | scr _ => simp [D.plain] at hb
    | _ => rfl
  | .tup xs, b, ha, hb => by
    cases b with
    | tup ys =>
      simp only [D.plain] at ha hb
      simp only [D.py, PyData.eqv, D.eqv]
      exact pys_eqv xs ys ha hb
    | dct _ => simp [D.plain] at hb
    | ins _ _ => simp [D.plain] at hb
    | ty _ => simp [D.plain] at hb
    | cls _ => simp [D.plain] at hb
    | scr _ => simp [D.plain] at hb
    | _ => rfl
  | .lst xs, b, ha, hb => by
    cases b with
    | lst ys =>
      simp only [D.plain] at ha hb
      simp only [D.py, PyData.eqv, D.eqv]
      exact pys_eqv xs ys ha hb
    | dct _ => simp [D.plain] at hb
    | ins _ _ => simp [D.plain] at hb
    | ty _ => simp [D.plain] at hb
    | cls _ => simp [D.plain] at hb
    | scr _ => simp [D.plain] at hb
    | _ => rfl
  | .dct _, _, h, _ => by simp [D.plain] at h
  | .ins _ _, _, h, _ => by simp [D.plain] at h
  | .ty _, _, h, _ => by simp [D.plain] at h
  | .cls _, _, h, _ => by simp [D.plain] at h
theorem pys_eqv : ∀ a b : List D, plains a = true → plains b = true → PyData.eqvAll (pys a) (pys b) = eqvs a b
  | [], [], _, _ => rfl
  | [], _ :: _, _, _ => rfl
  | _ :: _, [], _, _ => rfl
  | x :: xs, y :: ys, ha, hb => by
    simp only [plains, Bool.and_eq_true] at ha hb
    simp only [pys, PyData.eqvAll, eqvs, py_eqv x y ha.1 hb.1, pys_eqv xs ys ha.2 hb.2]
end
section
variable {Y : Lay} {av : Addr → Prop} {fg : Addr → Prop} {ι : List Addr} {L : List Obj} {H : Hp}
mutual
theorem RD.dp : ∀ {d : D} {v : V}, RD Y av H d v → d.plain = true → Dp Y.K H v d.py
  | _, _, .non, _ => .non
  | _, _, .bl b, _ => .bl b
  | _, _, .int i, _ => .int i
  | _, _, .str s, _ => .str _
  | _, _, .tup h r, p => by
    simp only [D.plain] at p
    exact .tup h.sq (RDs.dp r p)
  | _, _, .lst h r, p => by
    simp only [D.plain] at p
    exact .lst h.sq (RDs.dp r p)
  | _, _, .dct h n r, p => by simp [D.plain] at p
  | _, _, .ins c h n r, p => by simp [D.plain] at p
  | _, _, .scr h, p => by simp [D.plain] at p
theorem RDs.dp : ∀ {d : List D} {v : List V}, RDs Y av H d v → plains d = true → DpAll Y.K H v (pys d)
  | _, _, .nil, _ => .nil
  | _, _, .cons r rs, p => by
    simp only [plains, Bool.and_eq_true] at p
    exact .cons (RD.dp r p.1) (RDs.dp rs p.2)
end
theorem PK.dp {d : D} {v : V} (h : PK Y fg ι L H d v) (p : d.plain = true) : Dp Y.K H v d.py := by
  cases d with
  | lst xs =>
    obtain ⟨a, vs, rfl, h1, r⟩ := h
    simp only [D.plain] at p
    exact .lst (.inl (.inl h1)) (r.dp p)
  | dct _ => simp [D.plain] at p
  | ins _ _ => simp [D.plain] at p
  | non => exact RD.dp (show RD Y _ H _ _ from h) p
  | bl _ => exact RD.dp (show RD Y _ H _ _ from h) p
  | int _ => exact RD.dp (show RD Y _ H _ _ from h) p
  | str _ => exact RD.dp (show RD Y _ H _ _ from h) p
  | tup _ => exact RD.dp (show RD Y _ H _ _ from h) p
  | ty _ => simp [D.plain] at p
  | cls _ => simp [D.plain] at p
  | scr _ => simp [D.plain] at p
theorem py_shaped {d : D} (p : d.plain = true) (q : d.deep ≤ 60) : SeqAt.shaped d.py = true := by
  unfold SeqAt.shaped
  rw [py_lay d p, py_deep d p, decide_eq_true (by omega)]
  rfl
end

def copOf : COp → CmpOp
  | .eq => .Eq | .ne => .NotEq | .lt => .Lt | .le => .LtE | .gt => .Gt | .ge => .GtE | .is_ => .Is | .isNot => .IsNot | .in_ => .In | .notIn => .NotIn
theorem ltT_ok : ∀ a b : T, decide (a < b) = ltT a b
  | [], [] => rfl
  | [], _ :: _ => by simp [ltT]
  | _ :: _, [] => by simp [ltT]
  | a :: as, b :: bs => by
    rw [ltT, ← ltT_ok as bs]
    by_cases h : a < b
    · have : a :: as < b :: bs := List.Lex.rel h
      simp [h, this]
    · by_cases e : a = b
      · subst e
        simp [List.cons_lt_cons_iff]
      · have : ¬ a :: as < b :: bs := by
          rw [List.cons_lt_cons_iff]
          rintro (z | ⟨z, _⟩)
          · exact h z
          · exact e z
        simp [h, e, this]
section
variable {X : Cx} {Y : Lay}
def rCmp (Y : Lay) (op : COp) : R2 := fun x y H Q => ∃ fg ι L p q b, Sim Y fg ι L H ∧ PK Y fg ι L H p x ∧ PK Y fg ι L H q y ∧ cmpO op p q = some b ∧ Q (.bl b) H
theorem eq_ok (hK : Y.K = X.K) (hu : X.A.units + 100 < cLine) {pins : List (Addr × PySem.Obj)} {s : Shared} {σ : L2.St} {H : Hp} {x y : V} {v u : Value} {Q : VK} {fg : Addr → Prop} {ι : List Addr} {L : List Obj} {p q : D} {b : Bool} (I : L2.Inv X pins σ H s) (rx : RelV x v) (ry : RelV y u)
    (px : PK Y fg ι L H p x) (qy : PK Y fg ι L H q y) (e : eqO p q = some b) :
    (Q (.bl b) H → wpAny (model X.prog X.w) X.A (compareOp .Eq v u) (EP X pins σ Q) X.xe s) ∧ (Q (.bl (!b)) H → wpAny (model X.prog X.w) X.A (compareOp .NotEq v u) (EP X pins σ Q) X.xe s) := by
  unfold eqO at e
  split at e
  · rename_i a c
    cases e
    have ex := px.str
    have ey := qy.str
    subst ex
    subst ey
    have hd : decide (V.str (S a) = V.str (S c)) = (a == c) := by
      rw [dec_str, S_beq]
    refine ⟨fun k => op_eq pins s σ H _ _ v u Q I rx ry ⟨rfl, ?_⟩, fun k => op_ne pins s σ H _ _ v u Q I rx ry ⟨rfl, ?_⟩⟩
    · rw [hd]; exact k
    · rw [hd]; exact k
  · split at e
    case isFalse => cases e
    case isTrue hz =>
      cases e
      rw [Bool.and_eq_true, Bool.and_eq_true, Bool.and_eq_true, decide_eq_true_eq, decide_eq_true_eq] at hz
      obtain ⟨⟨⟨z1, z2⟩, z3⟩, z4⟩ := hz
      have d1 := px.dp z1
      have d2 := qy.dp z2
      rw [hK] at d1 d2
      have hv := py_eqv p q z1 z2
      refine ⟨fun k => op_eqD (by omega) pins s σ H _ _ v u Q I rx ry ⟨_, _, d1, d2, py_shaped z1 (by omega), py_shaped z2 (by omega), ?_⟩, fun k => op_neD (by omega) pins s σ H _ _ v u Q I rx ry ⟨_, _, d1, d2, py_shaped z1 (by omega), py_shaped z2 (by omega), ?_⟩⟩
      · rw [hv]; exact k
      · rw [hv]; exact k
end
end EV

set_option maxRecDepth 100000
set_option maxHeartbeats 4000000
namespace EV.Q
open PySem PySem.SeqAt
open AutoSeq1 (wpAny_loadPart')
open MeetsSeq MeetsSeq2 MeetsSeq3
def IsDct (h : Heap) (b : Addr) : Prop := ∃ o, h.get? b = some o ∧ o.cls = .type "dict" ∧ ∃ es n, o.data = .dict es n

theorem none_eq_declines (b : Addr) (es : Array DictEntry) (n2 : Nat) (dd2 : Option Addr) (sl2 : Array (Option Value)) : Meets (Builtin.«NoneType.__eq__» ⟨[.none, .ref b], []⟩) (fun _ R s => s.heap.get? b = some { cls := .type "dict", dict := dd2, data := .dict es n2, slots := sl2 } ∧ R (.ok (.ret .notImplemented)) s) :=
  .of_wp fun prog w A R s h => by obtain ⟨hp, g, d, tk, os⟩ := s; obtain ⟨hl, h⟩ := h; first | (wp_walk using wpAny_loadPart' hl, wpAny_load hl; exact ⟨_, rfl, h⟩) | (wp_walk; exact ⟨_, rfl, h⟩)
theorem dict_eq_declines_none (b : Addr) (es : Array DictEntry) (n2 : Nat) (dd2 : Option Addr) (sl2 : Array (Option Value)) : Meets (Builtin.«dict.__eq__» ⟨[.ref b, .none], []⟩) (fun _ R s => s.heap.get? b = some { cls := .type "dict", dict := dd2, data := .dict es n2, slots := sl2 } ∧ R (.ok (.ret .notImplemented)) s) :=
  .of_wp fun prog w A R s h => by obtain ⟨hp, g, d, tk, os⟩ := s; obtain ⟨hl, h⟩ := h; have f1 := F.sub_NoneType_dict; wp_walk using wpAny_loadPart' hl; exact ⟨_, rfl, h⟩

theorem bool_eq_declines (b : Addr) (es : Array DictEntry) (n2 : Nat) (dd2 : Option Addr) (sl2 : Array (Option Value)) (x : Bool) : Meets (Builtin.«int.__eq__» ⟨[.bool x, .ref b], []⟩) (fun _ R s => s.heap.get? b = some { cls := .type "dict", dict := dd2, data := .dict es n2, slots := sl2 } ∧ R (.ok (.ret .notImplemented)) s) :=
  .of_wp fun prog w A R s h => by obtain ⟨hp, g, d, tk, os⟩ := s; obtain ⟨hl, h⟩ := h; first | (wp_walk using wpAny_loadPart' hl, wpAny_load hl; exact ⟨_, rfl, h⟩) | (wp_walk; exact ⟨_, rfl, h⟩)
theorem dict_eq_declines_bool (b : Addr) (es : Array DictEntry) (n2 : Nat) (dd2 : Option Addr) (sl2 : Array (Option Value)) (x : Bool) : Meets (Builtin.«dict.__eq__» ⟨[.ref b, .bool x], []⟩) (fun _ R s => s.heap.get? b = some { cls := .type "dict", dict := dd2, data := .dict es n2, slots := sl2 } ∧ R (.ok (.ret .notImplemented)) s) :=
  .of_wp fun prog w A R s h => by obtain ⟨hp, g, d, tk, os⟩ := s; obtain ⟨hl, h⟩ := h; have f1 := F.sub_bool_dict; wp_walk using wpAny_loadPart' hl; exact ⟨_, rfl, h⟩

theorem int_eq_declines (b : Addr) (es : Array DictEntry) (n2 : Nat) (dd2 : Option Addr) (sl2 : Array (Option Value)) (x : Int) (u : Tok) : Meets (Builtin.«int.__eq__» ⟨[.int x u, .ref b], []⟩) (fun _ R s => s.heap.get? b = some { cls := .type "dict", dict := dd2, data := .dict es n2, slots := sl2 } ∧ R (.ok (.ret .notImplemented)) s) :=
  .of_wp fun prog w A R s h => by obtain ⟨hp, g, d, tk, os⟩ := s; obtain ⟨hl, h⟩ := h; first | (wp_walk using wpAny_loadPart' hl, wpAny_load hl; exact ⟨_, rfl, h⟩) | (wp_walk; exact ⟨_, rfl, h⟩)
theorem dict_eq_declines_int (b : Addr) (es : Array DictEntry) (n2 : Nat) (dd2 : Option Addr) (sl2 : Array (Option Value)) (x : Int) (u : Tok) : Meets (Builtin.«dict.__eq__» ⟨[.ref b, .int x u], []⟩) (fun _ R s => s.heap.get? b = some { cls := .type "dict", dict := dd2, data := .dict es n2, slots := sl2 } ∧ R (.ok (.ret .notImplemented)) s) :=
  .of_wp fun prog w A R s h => by obtain ⟨hp, g, d, tk, os⟩ := s; obtain ⟨hl, h⟩ := h; have f1 := F.sub_int_dict; wp_walk using wpAny_loadPart' hl; exact ⟨_, rfl, h⟩

theorem str_eq_declines (b : Addr) (es : Array DictEntry) (n2 : Nat) (dd2 : Option Addr) (sl2 : Array (Option Value)) (x : Str) (u : Tok) : Meets (Builtin.«str.__eq__» ⟨[.str x u, .ref b], []⟩) (fun _ R s => s.heap.get? b = some { cls := .type "dict", dict := dd2, data := .dict es n2, slots := sl2 } ∧ R (.ok (.ret .notImplemented)) s) :=
  .of_wp fun prog w A R s h => by obtain ⟨hp, g, d, tk, os⟩ := s; obtain ⟨hl, h⟩ := h; first | (wp_walk using wpAny_loadPart' hl, wpAny_load hl; exact ⟨_, rfl, h⟩) | (wp_walk; exact ⟨_, rfl, h⟩)
theorem dict_eq_declines_str (b : Addr) (es : Array DictEntry) (n2 : Nat) (dd2 : Option Addr) (sl2 : Array (Option Value)) (x : Str) (u : Tok) : Meets (Builtin.«dict.__eq__» ⟨[.ref b, .str x u], []⟩) (fun _ R s => s.heap.get? b = some { cls := .type "dict", dict := dd2, data := .dict es n2, slots := sl2 } ∧ R (.ok (.ret .notImplemented)) s) :=
  .of_wp fun prog w A R s h => by obtain ⟨hp, g, d, tk, os⟩ := s; obtain ⟨hl, h⟩ := h; have f1 := F.sub_str_dict; wp_walk using wpAny_loadPart' hl; exact ⟨_, rfl, h⟩

theorem list_eq_declines (l : Addr) (items : Array Value) (n : Nat) (dd : Option Addr) (sl : Array (Option Value)) (b : Addr) (es : Array DictEntry) (n2 : Nat) (dd2 : Option Addr) (sl2 : Array (Option Value)) : Meets (Builtin.«list.__eq__» ⟨[.ref l, .ref b], []⟩) (fun _ R s => s.heap.get? l = some { cls := .type "list", dict := dd, data := .seq items n, slots := sl } ∧ s.heap.get? b = some { cls := .type "dict", dict := dd2, data := .dict es n2, slots := sl2 } ∧ R (.ok (.ret .notImplemented)) s) :=
  .of_wp fun prog w A R s h => by obtain ⟨hp, g, d, tk, os⟩ := s; obtain ⟨hl, hb, h⟩ := h; have f1 := F.sub_dict_list; wp_walk using wpAny_loadPart' hl, wpAny_loadPart' hb; exact ⟨_, rfl, h⟩
theorem dict_eq_declines_list (l : Addr) (items : Array Value) (n : Nat) (dd : Option Addr) (sl : Array (Option Value)) (b : Addr) (es : Array DictEntry) (n2 : Nat) (dd2 : Option Addr) (sl2 : Array (Option Value)) : Meets (Builtin.«dict.__eq__» ⟨[.ref b, .ref l], []⟩) (fun _ R s => s.heap.get? l = some { cls := .type "list", dict := dd, data := .seq items n, slots := sl } ∧ s.heap.get? b = some { cls := .type "dict", dict := dd2, data := .dict es n2, slots := sl2 } ∧ R (.ok (.ret .notImplemented)) s) :=
  .of_wp fun prog w A R s h => by obtain ⟨hp, g, d, tk, os⟩ := s; obtain ⟨hl, hb, h⟩ := h; have f1 := F.sub_list_dict; wp_walk using wpAny_loadPart' hl, wpAny_loadPart' hb; exact ⟨_, rfl, h⟩

theorem tuple_eq_declines (l : Addr) (items : Array Value) (n : Nat) (dd : Option Addr) (sl : Array (Option Value)) (b : Addr) (es : Array DictEntry) (n2 : Nat) (dd2 : Option Addr) (sl2 : Array (Option Value)) : Meets (Builtin.«tuple.__eq__» ⟨[.ref l, .ref b], []⟩) (fun _ R s => s.heap.get? l = some { cls := .type "tuple", dict := dd, data := .seq items n, slots := sl } ∧ s.heap.get? b = some { cls := .type "dict", dict := dd2, data := .dict es n2, slots := sl2 } ∧ R (.ok (.ret .notImplemented)) s) :=
  .of_wp fun prog w A R s h => by obtain ⟨hp, g, d, tk, os⟩ := s; obtain ⟨hl, hb, h⟩ := h; have f1 := F.sub_dict_tuple; wp_walk using wpAny_loadPart' hl, wpAny_loadPart' hb; exact ⟨_, rfl, h⟩
theorem dict_eq_declines_tuple (l : Addr) (items : Array Value) (n : Nat) (dd : Option Addr) (sl : Array (Option Value)) (b : Addr) (es : Array DictEntry) (n2 : Nat) (dd2 : Option Addr) (sl2 : Array (Option Value)) : Meets (Builtin.«dict.__eq__» ⟨[.ref b, .ref l], []⟩) (fun _ R s => s.heap.get? l = some { cls := .type "tuple", dict := dd, data := .seq items n, slots := sl } ∧ s.heap.get? b = some { cls := .type "dict", dict := dd2, data := .dict es n2, slots := sl2 } ∧ R (.ok (.ret .notImplemented)) s) :=
  .of_wp fun prog w A R s h => by obtain ⟨hp, g, d, tk, os⟩ := s; obtain ⟨hl, hb, h⟩ := h; have f1 := F.sub_tuple_dict; wp_walk using wpAny_loadPart' hl, wpAny_loadPart' hb; exact ⟨_, rfl, h⟩

section
variable {A : Around} {s : Shared}

theorem RcAt.none_dict {b : Addr} (hb : IsDct s.heap b) (hu : A.units < cLine) : RcAt A s (.none) (.ref b) false := fun prog w E Q h => by
  obtain ⟨⟨cls, dd, data, sl⟩, ho, hc, es, n, hd⟩ := id hb
  simp only at hc hd
  subst hc hd
  exact rc_eq_decline_or (k := false) rfl ⟨_, ho, rfl⟩ (by decide) F.sub_dict_NoneType F.slot_NoneType_eq F.slot_dict_eq_refl
    (fun _ hq => call_meets F.slot_NoneType_eq rfl F.entry_NoneType_eq (F.args_NoneType_eq_2 _ _) (none_eq_declines b es n dd sl) ⟨ho, hq⟩)
    (fun _ hq => call_meets F.slot_dict_eq_refl ⟨_, ho, rfl⟩ F.entry_dict_eq (F.args_dict_eq_2 _ _) (dict_eq_declines_none b es n dd sl) ⟨ho, hq⟩)
    (fun _ hq => wpAny_of_eq (rfl : isSame (.none) (.ref b) = pure false) hq) (.inr hu) h
theorem RcAt.dict_none {b : Addr} (hb : IsDct s.heap b) (hu : A.units < cLine) : RcAt A s (.ref b) (.none) false := fun prog w E Q h => by
  obtain ⟨⟨cls, dd, data, sl⟩, ho, hc, es, n, hd⟩ := id hb
  simp only at hc hd
  subst hc hd
  exact rc_eq_decline_or (k := false) ⟨_, ho, rfl⟩ rfl (by decide) F.sub_NoneType_dict F.slot_dict_eq F.slot_NoneType_eq_refl
    (fun _ hq => call_meets F.slot_dict_eq ⟨_, ho, rfl⟩ F.entry_dict_eq (F.args_dict_eq_2 _ _) (dict_eq_declines_none b es n dd sl) ⟨ho, hq⟩)
    (fun _ hq => call_meets F.slot_NoneType_eq_refl rfl F.entry_NoneType_eq (F.args_NoneType_eq_2 _ _) (none_eq_declines b es n dd sl) ⟨ho, hq⟩)
    (fun _ hq => wpAny_of_eq (rfl : isSame (.ref b) (.none) = pure false) hq) (.inr hu) h

theorem EqAt.none_dict {b : Addr} (hb : IsDct s.heap b) (hu : A.units < cLine) : EqAt A s (.none) (.ref b) false := fun prog w E Q h => by
  unfold eqBool
  refine wpAny_holding ?_
  refine wpAny_ite_split (fun hab => absurd (eq_of_beq hab) nofun) (fun _ => ?_)
  exact wpAny_bind (EV.Q.RcAt.none_dict hb hu prog w E _ (wpAny_truthy_bool h))

theorem EqAt.dict_none {b : Addr} (hb : IsDct s.heap b) (hu : A.units < cLine) : EqAt A s (.ref b) (.none) false := fun prog w E Q h => by
  unfold eqBool
  refine wpAny_holding ?_
  refine wpAny_ite_split (fun hab => absurd (eq_of_beq hab) nofun) (fun _ => ?_)
  exact wpAny_bind (EV.Q.RcAt.dict_none hb hu prog w E _ (wpAny_truthy_bool h))

theorem RcAt.bool_dict {b : Addr} (x : Bool) (hb : IsDct s.heap b) (hu : A.units < cLine) : RcAt A s (.bool x) (.ref b) false := fun prog w E Q h => by
  obtain ⟨⟨cls, dd, data, sl⟩, ho, hc, es, n, hd⟩ := id hb
  simp only at hc hd
  subst hc hd
  exact rc_eq_decline_or (k := false) rfl ⟨_, ho, rfl⟩ (by decide) F.sub_dict_bool F.slot_bool_eq F.slot_dict_eq_refl
    (fun _ hq => call_meets F.slot_bool_eq rfl F.entry_int_eq (F.args_int_eq_2 _ _) (bool_eq_declines b es n dd sl x) ⟨ho, hq⟩)
    (fun _ hq => call_meets F.slot_dict_eq_refl ⟨_, ho, rfl⟩ F.entry_dict_eq (F.args_dict_eq_2 _ _) (dict_eq_declines_bool b es n dd sl x) ⟨ho, hq⟩)
    (fun _ hq => wpAny_of_eq (rfl : isSame (.bool x) (.ref b) = pure false) hq) (.inr hu) h
theorem RcAt.dict_bool {b : Addr} (x : Bool) (hb : IsDct s.heap b) (hu : A.units < cLine) : RcAt A s (.ref b) (.bool x) false := fun prog w E Q h => by
  obtain ⟨⟨cls, dd, data, sl⟩, ho, hc, es, n, hd⟩ := id hb
  simp only at hc hd
  subst hc hd
  exact rc_eq_decline_or (k := false) ⟨_, ho, rfl⟩ rfl (by decide) F.sub_bool_dict F.slot_dict_eq F.slot_bool_eq_refl
    (fun _ hq => call_meets F.slot_dict_eq ⟨_, ho, rfl⟩ F.entry_dict_eq (F.args_dict_eq_2 _ _) (dict_eq_declines_bool b es n dd sl x) ⟨ho, hq⟩)
    (fun _ hq => call_meets F.slot_bool_eq_refl rfl F.entry_int_eq (F.args_int_eq_2 _ _) (bool_eq_declines b es n dd sl x) ⟨ho, hq⟩)
    (fun _ hq => wpAny_of_eq (rfl : isSame (.ref b) (.bool x) = pure false) hq) (.inr hu) h

theorem EqAt.bool_dict {b : Addr} (x : Bool) (hb : IsDct s.heap b) (hu : A.units < cLine) : EqAt A s (.bool x) (.ref b) false := fun prog w E Q h => by
  unfold eqBool
  refine wpAny_holding ?_
  refine wpAny_ite_split (fun hab => absurd (eq_of_beq hab) nofun) (fun _ => ?_)
  exact wpAny_bind (EV.Q.RcAt.bool_dict x hb hu prog w E _ (wpAny_truthy_bool h))

theorem EqAt.dict_bool {b : Addr} (x : Bool) (hb : IsDct s.heap b) (hu : A.units < cLine) : EqAt A s (.ref b) (.bool x) false := fun prog w E Q h => by
  unfold eqBool
  refine wpAny_holding ?_
  refine wpAny_ite_split (fun hab => absurd (eq_of_beq hab) nofun) (fun _ => ?_)
  exact wpAny_bind (EV.Q.RcAt.dict_bool x hb hu prog w E _ (wpAny_truthy_bool h))

theorem RcAt.int_dict {b : Addr} (x : Int) (u : Tok) (hb : IsDct s.heap b) (hu : A.units < cLine) : RcAt A s (.int x u) (.ref b) false := fun prog w E Q h => by
  obtain ⟨⟨cls, dd, data, sl⟩, ho, hc, es, n, hd⟩ := id hb
  simp only at hc hd
  subst hc hd
  exact rc_eq_decline_or (k := false) (typeIs_int s x u) ⟨_, ho, rfl⟩ (by decide) F.sub_dict_int F.slot_int_eq F.slot_dict_eq_refl
    (fun _ hq => call_meets F.slot_int_eq (typeIs_int s x u) F.entry_int_eq (F.args_int_eq_2 _ _) (int_eq_declines b es n dd sl x u) ⟨ho, hq⟩)
    (fun _ hq => call_meets F.slot_dict_eq_refl ⟨_, ho, rfl⟩ F.entry_dict_eq (F.args_dict_eq_2 _ _) (dict_eq_declines_int b es n dd sl x u) ⟨ho, hq⟩)
    (fun _ hq => wpAny_of_eq (rfl : isSame (.int x u) (.ref b) = pure false) hq) (.inr hu) h
theorem RcAt.dict_int {b : Addr} (x : Int) (u : Tok) (hb : IsDct s.heap b) (hu : A.units < cLine) : RcAt A s (.ref b) (.int x u) false := fun prog w E Q h => by
  obtain ⟨⟨cls, dd, data, sl⟩, ho, hc, es, n, hd⟩ := id hb
  simp only at hc hd
  subst hc hd
  exact rc_eq_decline_or (k := false) ⟨_, ho, rfl⟩ (typeIs_int s x u) (by decide) F.sub_int_dict F.slot_dict_eq F.slot_int_eq_refl
    (fun _ hq => call_meets F.slot_dict_eq ⟨_, ho, rfl⟩ F.entry_dict_eq (F.args_dict_eq_2 _ _) (dict_eq_declines_int b es n dd sl x u) ⟨ho, hq⟩)
    (fun _ hq => call_meets F.slot_int_eq_refl (typeIs_int s x u) F.entry_int_eq (F.args_int_eq_2 _ _) (int_eq_declines b es n dd sl x u) ⟨ho, hq⟩)
    (fun _ hq => wpAny_of_eq (rfl : isSame (.ref b) (.int x u) = pure false) hq) (.inr hu) h

theorem EqAt.int_dict {b : Addr} (x : Int) (u : Tok) (hb : IsDct s.heap b) (hu : A.units < cLine) : EqAt A s (.int x u) (.ref b) false := fun prog w E Q h => by
  unfold eqBool
  refine wpAny_holding ?_
  refine wpAny_ite_split (fun hab => absurd (eq_of_beq hab) nofun) (fun _ => ?_)
  exact wpAny_bind (EV.Q.RcAt.int_dict x u hb hu prog w E _ (wpAny_truthy_bool h))

theorem EqAt.dict_int {b : Addr} (x : Int) (u : Tok) (hb : IsDct s.heap b) (hu : A.units < cLine) : EqAt A s (.ref b) (.int x u) false := fun prog w E Q h => by
  unfold eqBool
  refine wpAny_holding ?_
  refine wpAny_ite_split (fun hab => absurd (eq_of_beq hab) nofun) (fun _ => ?_)
  exact wpAny_bind (EV.Q.RcAt.dict_int x u hb hu prog w E _ (wpAny_truthy_bool h))

theorem RcAt.str_dict {b : Addr} (x : Str) (u : Tok) (hb : IsDct s.heap b) (hu : A.units < cLine) : RcAt A s (.str x u) (.ref b) false := fun prog w E Q h => by
  obtain ⟨⟨cls, dd, data, sl⟩, ho, hc, es, n, hd⟩ := id hb
  simp only at hc hd
  subst hc hd
  exact rc_eq_decline_or (k := false) (typeIs_str s x u) ⟨_, ho, rfl⟩ (by decide) F.sub_dict_str F.slot_str_eq F.slot_dict_eq_refl
    (fun _ hq => call_meets F.slot_str_eq (typeIs_str s x u) F.entry_str_eq (F.args_str_eq_2 _ _) (str_eq_declines b es n dd sl x u) ⟨ho, hq⟩)
    (fun _ hq => call_meets F.slot_dict_eq_refl ⟨_, ho, rfl⟩ F.entry_dict_eq (F.args_dict_eq_2 _ _) (dict_eq_declines_str b es n dd sl x u) ⟨ho, hq⟩)
    (fun _ hq => wpAny_of_eq (rfl : isSame (.str x u) (.ref b) = pure false) hq) (.inr hu) h
theorem RcAt.dict_str {b : Addr} (x : Str) (u : Tok) (hb : IsDct s.heap b) (hu : A.units < cLine) : RcAt A s (.ref b) (.str x u) false := fun prog w E Q h => by
  obtain ⟨⟨cls, dd, data, sl⟩, ho, hc, es, n, hd⟩ := id hb
  simp only at hc hd
  subst hc hd
  exact rc_eq_decline_or (k := false) ⟨_, ho, rfl⟩ (typeIs_str s x u) (by decide) F.sub_str_dict F.slot_dict_eq F.slot_str_eq_refl
    (fun _ hq => call_meets F.slot_dict_eq ⟨_, ho, rfl⟩ F.entry_dict_eq (F.args_dict_eq_2 _ _) (dict_eq_declines_str b es n dd sl x u) ⟨ho, hq⟩)
    (fun _ hq => call_meets F.slot_str_eq_refl (typeIs_str s x u) F.entry_str_eq (F.args_str_eq_2 _ _) (str_eq_declines b es n dd sl x u) ⟨ho, hq⟩)
    (fun _ hq => wpAny_of_eq (rfl : isSame (.ref b) (.str x u) = pure false) hq) (.inr hu) h

theorem EqAt.str_dict {b : Addr} (x : Str) (u : Tok) (hb : IsDct s.heap b) (hu : A.units < cLine) : EqAt A s (.str x u) (.ref b) false := fun prog w E Q h => by
  unfold eqBool
  refine wpAny_holding ?_
  refine wpAny_ite_split (fun hab => absurd (eq_of_beq hab) nofun) (fun _ => ?_)
  exact wpAny_bind (EV.Q.RcAt.str_dict x u hb hu prog w E _ (wpAny_truthy_bool h))

theorem EqAt.dict_str {b : Addr} (x : Str) (u : Tok) (hb : IsDct s.heap b) (hu : A.units < cLine) : EqAt A s (.ref b) (.str x u) false := fun prog w E Q h => by
  unfold eqBool
  refine wpAny_holding ?_
  refine wpAny_ite_split (fun hab => absurd (eq_of_beq hab) nofun) (fun _ => ?_)
  exact wpAny_bind (EV.Q.RcAt.dict_str x u hb hu prog w E _ (wpAny_truthy_bool h))

theorem ne_list {l b : Addr} {items : Array Value} (hl : s.heap.IsList l items) (hb : IsDct s.heap b) : l ≠ b := fun e => by
  subst e
  obtain ⟨o, ho, hc, _⟩ := hl
  obtain ⟨o2, ho2, hc2, _⟩ := hb
  rw [ho] at ho2
  cases ho2
  rw [hc] at hc2
  exact absurd hc2 (by simp)

theorem RcAt.list_dict {l b : Addr} {items : Array Value} (hl : s.heap.IsList l items) (hb : IsDct s.heap b) (hu : A.units < cLine) : RcAt A s (.ref l) (.ref b) false := fun prog w E Q h => by
  have hne := ne_list hl hb
  obtain ⟨⟨cls, dd, data, sl⟩, ho, hc, n, hd⟩ := id hl
  obtain ⟨⟨cls2, dd2, data2, sl2⟩, ho2, hc2, es, n2, hd2⟩ := id hb
  simp only at hc hd hc2 hd2
  subst hc hd hc2 hd2
  exact (rc_eq_decline_or (k := false) ⟨_, ho, rfl⟩ ⟨_, ho2, rfl⟩ (by decide) F.sub_dict_list F.slot_list_eq F.slot_dict_eq_refl
    (fun _ hq => call_meets F.slot_list_eq ⟨_, ho, rfl⟩ F.entry_list_eq (F.args_list_eq_2 _ _) (list_eq_declines l items n dd sl b es n2 dd2 sl2) ⟨ho, ho2, hq⟩)
    (fun _ hq => call_meets F.slot_dict_eq_refl ⟨_, ho2, rfl⟩ F.entry_dict_eq (F.args_dict_eq_2 _ _) (dict_eq_declines_list l items n dd sl b es n2 dd2 sl2) ⟨ho, ho2, hq⟩)
    (fun _ hq => wpAny_isSame_ref_other' hne ho ho2 (by simp) hq) (.inr hu) h)
theorem RcAt.dict_list {l b : Addr} {items : Array Value} (hl : s.heap.IsList l items) (hb : IsDct s.heap b) (hu : A.units < cLine) : RcAt A s (.ref b) (.ref l) false := fun prog w E Q h => by
  have hne := (ne_list hl hb).symm
  obtain ⟨⟨cls, dd, data, sl⟩, ho, hc, n, hd⟩ := id hl
  obtain ⟨⟨cls2, dd2, data2, sl2⟩, ho2, hc2, es, n2, hd2⟩ := id hb
  simp only at hc hd hc2 hd2
  subst hc hd hc2 hd2
  exact (rc_eq_decline_or (k := false) ⟨_, ho2, rfl⟩ ⟨_, ho, rfl⟩ (by decide) F.sub_list_dict F.slot_dict_eq F.slot_list_eq_refl
    (fun _ hq => call_meets F.slot_dict_eq ⟨_, ho2, rfl⟩ F.entry_dict_eq (F.args_dict_eq_2 _ _) (dict_eq_declines_list l items n dd sl b es n2 dd2 sl2) ⟨ho, ho2, hq⟩)
    (fun _ hq => call_meets F.slot_list_eq_refl ⟨_, ho, rfl⟩ F.entry_list_eq (F.args_list_eq_2 _ _) (list_eq_declines l items n dd sl b es n2 dd2 sl2) ⟨ho, ho2, hq⟩)
    (fun _ hq => wpAny_isSame_ref_other hne ho2 ho (by simp) hq) (.inr hu) h)

theorem EqAt.list_dict {l b : Addr} {items : Array Value} (hl : s.heap.IsList l items) (hb : IsDct s.heap b) (hu : A.units < cLine) : EqAt A s (.ref l) (.ref b) false := .of_refs (ne_list hl hb) (EV.Q.RcAt.list_dict hl hb hu)
theorem EqAt.dict_list {l b : Addr} {items : Array Value} (hl : s.heap.IsList l items) (hb : IsDct s.heap b) (hu : A.units < cLine) : EqAt A s (.ref b) (.ref l) false := .of_refs (ne_list hl hb).symm (EV.Q.RcAt.dict_list hl hb hu)

theorem ne_tuple {l b : Addr} {items : Array Value} (hl : s.heap.IsTuple l items) (hb : IsDct s.heap b) : l ≠ b := fun e => by
  subst e
  obtain ⟨o, ho, hc, _⟩ := hl
  obtain ⟨o2, ho2, hc2, _⟩ := hb
  rw [ho] at ho2
  cases ho2
  rw [hc] at hc2
  exact absurd hc2 (by simp)

theorem RcAt.tuple_dict {l b : Addr} {items : Array Value} (hl : s.heap.IsTuple l items) (hb : IsDct s.heap b) (hu : A.units < cLine) : RcAt A s (.ref l) (.ref b) false := fun prog w E Q h => by
  have hne := ne_tuple hl hb
  obtain ⟨⟨cls, dd, data, sl⟩, ho, hc, n, hd⟩ := id hl
  obtain ⟨⟨cls2, dd2, data2, sl2⟩, ho2, hc2, es, n2, hd2⟩ := id hb
  simp only at hc hd hc2 hd2
  subst hc hd hc2 hd2
  exact (rc_eq_decline_or (k := false) ⟨_, ho, rfl⟩ ⟨_, ho2, rfl⟩ (by decide) F.sub_dict_tuple F.slot_tuple_eq F.slot_dict_eq_refl
    (fun _ hq => call_meets F.slot_tuple_eq ⟨_, ho, rfl⟩ F.entry_tuple_eq (F.args_tuple_eq_2 _ _) (tuple_eq_declines l items n dd sl b es n2 dd2 sl2) ⟨ho, ho2, hq⟩)
    (fun _ hq => call_meets F.slot_dict_eq_refl ⟨_, ho2, rfl⟩ F.entry_dict_eq (F.args_dict_eq_2 _ _) (dict_eq_declines_tuple l items n dd sl b es n2 dd2 sl2) ⟨ho, ho2, hq⟩)
    (fun _ hq => wpAny_isSame_ref_other' hne ho ho2 (by simp) hq) (.inr hu) h)
theorem RcAt.dict_tuple {l b : Addr} {items : Array Value} (hl : s.heap.IsTuple l items) (hb : IsDct s.heap b) (hu : A.units < cLine) : RcAt A s (.ref b) (.ref l) false := fun prog w E Q h => by
  have hne := (ne_tuple hl hb).symm
  obtain ⟨⟨cls, dd, data, sl⟩, ho, hc, n, hd⟩ := id hl
  obtain ⟨⟨cls2, dd2, data2, sl2⟩, ho2, hc2, es, n2, hd2⟩ := id hb
  simp only at hc hd hc2 hd2
  subst hc hd hc2 hd2
  exact (rc_eq_decline_or (k := false) ⟨_, ho2, rfl⟩ ⟨_, ho, rfl⟩ (by decide) F.sub_tuple_dict F.slot_dict_eq F.slot_tuple_eq_refl
    (fun _ hq => call_meets F.slot_dict_eq ⟨_, ho2, rfl⟩ F.entry_dict_eq (F.args_dict_eq_2 _ _) (dict_eq_declines_tuple l items n dd sl b es n2 dd2 sl2) ⟨ho, ho2, hq⟩)
    (fun _ hq => call_meets F.slot_tuple_eq_refl ⟨_, ho, rfl⟩ F.entry_tuple_eq (F.args_tuple_eq_2 _ _) (tuple_eq_declines l items n dd sl b es n2 dd2 sl2) ⟨ho, ho2, hq⟩)
    (fun _ hq => wpAny_isSame_ref_other hne ho2 ho (by simp) hq) (.inr hu) h)

theorem EqAt.tuple_dict {l b : Addr} {items : Array Value} (hl : s.heap.IsTuple l items) (hb : IsDct s.heap b) (hu : A.units < cLine) : EqAt A s (.ref l) (.ref b) false := .of_refs (ne_tuple hl hb) (EV.Q.RcAt.tuple_dict hl hb hu)
theorem EqAt.dict_tuple {l b : Addr} {items : Array Value} (hl : s.heap.IsTuple l items) (hb : IsDct s.heap b) (hu : A.units < cLine) : EqAt A s (.ref b) (.ref l) false := .of_refs (ne_tuple hl hb).symm (EV.Q.RcAt.dict_tuple hl hb hu)

end
end EV.Q


set_option maxRecDepth 100000
set_option maxHeartbeats 4000000
namespace EV
open PySem L2 PyProof.Rows
section
variable {Y : Lay} {av : Addr → Prop} {H : Hp} {fg : Addr → Prop} {ι : List Addr} {L : List Obj}
theorem key_val {d : D} {v : V} {q : Key} (p : PK Y fg ι L H d v) (e : keyD d = some q) : v = kV q := by
  cases d with
  | str s => cases e; rw [p.str]; rfl
  | int i => cases e; rw [p.int]; rfl
  | _ => cases e
theorem RDk.at {k : D} {q : Key} (hq : keyD k = some q) : ∀ {kvs : List (D × D)} {es : List (Key × V)}, RDk Y av H kvs es → (∀ d, atD kvs k = some d → ∃ v, valV es q = some v ∧ RD Y av H d v) ∧ (atD kvs k = none → valV es q = none)
  | _, _, .nil => ⟨fun d e => by simp [atD] at e, fun _ => rfl⟩
  | _, _, .cons (k := k0) (x := x0) (q := q0) (v := v0) h r rs => by
    obtain ⟨i1, i2⟩ := RDk.at hq rs
    unfold atD valV at *
    rw [List.find?_cons, List.find?_cons]
    dsimp only
    rw [h, hq]
    by_cases z : q0 = q
    · subst z
      simp only [decide_true]
      exact ⟨fun d e => ⟨v0, rfl, by cases e; exact r⟩, fun e => by cases e⟩
    · have z2 : ¬ (some q0 = some q) := fun y => z (Option.some.inj y)
      simp only [decide_eq_false z, decide_eq_false z2]
      rw [hq] at i1 i2
      exact ⟨i1, i2⟩
theorem RDk.length : ∀ {kvs : List (D × D)} {es : List (Key × V)}, RDk Y av H kvs es → es.length = kvs.length
  | _, _, .nil => rfl
  | _, _, .cons _ _ rs => by rw [List.length_cons, List.length_cons, RDk.length rs]
theorem RDs.pairs : ∀ {xs : List D} {vs : List V} {ps : List (D × D)}, RDs Y av H xs vs → pairsO xs = some ps → ∃ (as : List Addr) (kvs : List (Key × V)), vs = as.map V.ref ∧ Paired (fun p kv => SqT Y.K H p [kV kv.1, kv.2]) as kvs ∧ RDk Y av H ps kvs
  | _, _, _, .nil, e => by
    simp only [pairsO, Option.some.injEq] at e
    subst e
    exact ⟨[], [], rfl, .nil, .nil⟩
  | _, _, _, .cons (x := x) r rs, e => by
    cases r with
    | tup h q =>
      cases q with
      | nil => simp [pairsO] at e
      | cons r1 q =>
        cases q with
        | nil => simp [pairsO] at e
        | cons r2 q =>
          cases q with
          | cons _ _ => simp [pairsO] at e
          | nil =>
            simp only [pairsO] at e
            split at e
            case isFalse => cases e
            case isTrue hk =>
              simp only [Option.map_eq_some_iff] at e
              obtain ⟨ps', e, rfl⟩ := e
              obtain ⟨k, hk⟩ := Option.isSome_iff_exists.mp hk
              obtain ⟨as, kvs, rfl, h2, h3⟩ := RDs.pairs rs e
              have hv := key_val (fg := fun a => av a) (ι := []) (L := []) (Y := Y) (PK.of (fg := fun a => av a) (ι := []) (L := []) (r1.grow ⟨fun _ _ h _ => h, fun a z => by
                rcases z with z | ⟨n, o, z, _⟩
                · exact .inl z
                · simp at z⟩)) hk
              subst hv
              exact ⟨_ :: as, (k, _) :: kvs, rfl, .cons h.sq h2, .cons hk r2 h3⟩
    | _ => simp [pairsO] at e
end
section
variable {X : Cx} {Y : Lay} {fg : Addr → Prop} {ι : List Addr} {L : List Obj} {H : Hp}
/-- data beside a dict -/
theorem eq_dct {A : Around} {av : Addr → Prop} {pins : List (Addr × PySem.Obj)} {σ : L2.St} {s : Shared} {b : Addr} (hK : Y.K = X.K) (I : L2.Inv X pins σ H s) (hb : EV.Q.IsDct s.heap b) (hu : A.units < cLine) {d : D} {v : V} {u : Value} (r : RD Y av H d v) (hp : d.plain = true) (ru : RelV v u) : SeqAt.EqAt A s u (.ref b) false := by
  cases r with
  | non => cases (show u = Value.none from ru); exact EV.Q.EqAt.none_dict hb hu
  | bl x => cases (show u = Value.bool x from ru); exact EV.Q.EqAt.bool_dict x hb hu
  | int i => obtain ⟨t, rfl⟩ := (show ∃ t, u = Value.int i t from ru); exact EV.Q.EqAt.int_dict i t hb hu
  | str i => obtain ⟨t, rfl⟩ := (show ∃ t, u = Value.str (S i) t from ru); exact EV.Q.EqAt.str_dict (S i) t hb hu
  | tup h q =>
    have h1 := h.sq
    rw [hK] at h1
    obtain ⟨its, rv, p, hz⟩ := I.tuple h1
    cases (show u = Value.ref _ from ru)
    exact EV.Q.EqAt.tuple_dict (show s.heap.IsTuple _ its.toArray from p) hb hu
  | lst h q =>
    have h1 := h.sq
    rw [hK] at h1
    obtain ⟨its, rv, p, hz⟩ := I.list h1
    cases (show u = Value.ref _ from ru)
    exact EV.Q.EqAt.list_dict p.isList hb hu
  | _ => simp [D.plain] at hp
theorem eqs_dct {A : Around} {av : Addr → Prop} {pins : List (Addr × PySem.Obj)} {σ : L2.St} {s : Shared} {b : Addr} (hK : Y.K = X.K) (I : L2.Inv X pins σ H s) (hb : EV.Q.IsDct s.heap b) (hu : A.units < cLine) : ∀ {ds : List D} {vs : List V} {us : List Value}, RDs Y av H ds vs → plains ds = true → Vals vs us → ∀ y ∈ us, SeqAt.EqAt A s y (.ref b) false
  | _, _, _, .nil, _, .nil, y, h => by cases h
  | _, _, _, .cons r rs, p, .cons ru rus, y, h => by
    simp only [plains, Bool.and_eq_true] at p
    rcases List.mem_cons.mp h with e | h
    · rw [e]; exact eq_dct hK I hb hu r p.1 ru
    · exact eqs_dct hK I hb hu rs p.2 rus y h
theorem isDct_of {pins : List (Addr × PySem.Obj)} {σ : L2.St} {s : Shared} {a : Addr} {es : List (Key × V)} (I : L2.Inv X pins σ H s) (h : H a = some (.dK es)) : EV.Q.IsDct s.heap a := by
  obtain ⟨_, _, vs, _, o, es, ep, ho, ⟨hx, _⟩, hd, _⟩ := dk_of I.hok h
  exact ⟨o, ho, hx, es, ep, hd⟩
theorem pys_any (f : PyData → Bool) (g : D → Bool) : ∀ xs : List D, (∀ x ∈ xs, f x.py = g x) → (pys xs).any f = xs.any g
  | [], _ => rfl
  | x :: xs, h => by
    rw [pys, List.any_cons, List.any_cons, h x List.mem_cons_self, pys_any f g xs fun y hy => h y (List.mem_cons_of_mem _ hy)]
theorem plains_mem : ∀ {xs : List D} {x : D}, plains xs = true → x ∈ xs → x.plain = true
  | [], _, _, h => by cases h
  | y :: ys, x, p, h => by
    simp only [plains, Bool.and_eq_true] at p
    rcases List.mem_cons.mp h with e | h
    · subst e; exact p.1
    · exact plains_mem p.2 h
theorem non_iff {a : D} {x : V} (h : PK Y fg ι L H a x) : decide (x = .non) = a.isNon := by
  cases a with
  | non => rw [h.non]; rfl
  | bl b => rw [h.bl]; rfl
  | int i => rw [h.int]; rfl
  | str s => rw [h.str]; rfl
  | tup xs => cases (show RD Y _ H _ _ from h); rfl
  | lst xs => obtain ⟨a, vs, rfl, _⟩ := h; rfl
  | dct xs => obtain ⟨a, vs, rfl, _⟩ := h; rfl
  | ins c xs => obtain ⟨a, C, dx, gs, rfl, _⟩ := h; rfl
  | ty n => cases (show RD Y _ H _ _ from h)
  | cls n => cases (show RD Y _ H _ _ from h)
  | scr n => cases (show RD Y _ H _ _ from h); rfl
theorem in_ok (hK : Y.K = X.K) (hu : X.A.units + 100 < cLine) {pins : List (Addr × PySem.Obj)} {s : Shared} {σ : L2.St} {x y : V} {v u : Value} {Q : VK} {p q : D} {b : Bool} (I : L2.Inv X pins σ H s) (rx : RelV x v) (ry : RelV y u)
    (px : PK Y fg ι L H p x) (qy : PK Y fg ι L H q y) (e : inO p q = some b) :
    (Q (.bl b) H → wpAny (model X.prog X.w) X.A (compareOp .In v u) (EP X pins σ Q) X.xe s) ∧ (Q (.bl (!b)) H → wpAny (model X.prog X.w) X.A (compareOp .NotIn v u) (EP X pins σ Q) X.xe s) := by
  unfold inO at e
  split at e
  · rename_i t
    split at e
    · rename_i c
      cases e
      have ex := px.str
      have ey := qy.str
      subst ex
      subst ey
      exact ⟨fun k => op_in_sign pins s σ H _ _ v u Q I rx ry ⟨c, S t, rfl, rfl, k⟩, fun k => op_notIn_sign pins s σ H _ _ v u Q I rx ry ⟨c, S t, rfl, rfl, k⟩⟩
    · cases e
  · rename_i xs
    split at e
    case isFalse =>
      split at e
      case isFalse => cases e
      case isTrue hz =>
        cases e
        rw [Bool.and_eq_true] at hz
        obtain ⟨z1, z2⟩ := hz
        cases p with
        | dct kvs =>
          obtain ⟨b, es, rfl, hb, rb⟩ := px
          obtain ⟨a, vs, rfl, ha, ra⟩ := qy
          obtain rfl : v = Value.ref b := rx
          obtain rfl : u = Value.ref a := ry
          have h1 : SqL X.K H a vs := .inl (.inl ha)
          obtain ⟨its, rv, pl, hz⟩ := I.list h1
          have go := eqs_dct hK I (isDct_of I hb) (A := X.A.in1) (by show X.A.units + 1 < cLine; omega) ra z2 rv
          have hf : (its.toArray.any fun _ => false) = false := by simp
          exact ⟨fun k => SeqAt.in_listAt (fun _ => false) pl.isList (fun y hy => go y (by simpa using hy)) ⟨.bl _, H, I, rfl, by rw [hf]; exact k⟩,
            fun k => SeqAt.notIn_listAt (fun _ => false) pl.isList (fun y hy => go y (by simpa using hy)) ⟨.bl _, H, I, rfl, by rw [hf]; exact k⟩⟩
        | _ => simp [D.isDct] at z1
    case isTrue hz =>
      cases e
      rw [Bool.and_eq_true, Bool.and_eq_true, Bool.and_eq_true, decide_eq_true_eq, decide_eq_true_eq] at hz
      obtain ⟨⟨⟨z1, z2⟩, z3⟩, z4⟩ := hz
      have d1 := px.dp z1
      have d2 := PK.dp (d := .lst xs) qy z2
      rw [hK] at d1 d2
      have hp : ((pys xs).any fun y => PyData.eqv y p.py) = xs.any fun y => D.eqv y p := pys_any _ _ xs fun y hy => py_eqv y p (plains_mem z2 hy) z1
      have sh : SeqAt.shaped (.list (pys xs)) = true := by
        have := py_shaped (d := .lst xs) z2 (by simp only [D.deep]; omega)
        exact this
      refine ⟨fun k => op_inD (by omega) pins s σ H _ _ v u Q I rx ry ⟨_, _, d1, d2, py_shaped z1 (by omega), sh, ?_⟩, fun k => op_notInD (by omega) pins s σ H _ _ v u Q I rx ry ⟨_, _, d1, d2, py_shaped z1 (by omega), sh, ?_⟩⟩
      · rw [hp]; exact k
      · rw [hp]; exact k
  · rename_i xs
    split at e
    case isFalse =>
      split at e
      case isFalse => cases e
      case isTrue hz =>
        cases e
        rw [Bool.and_eq_true] at hz
        obtain ⟨z1, z2⟩ := hz
        cases p with
        | dct kvs =>
          obtain ⟨b, es, rfl, hb, rb⟩ := px
          cases (show RD Y _ H _ _ from qy) with
          | tup ha ra =>
            rename_i a vs
            obtain rfl : v = Value.ref b := rx
            obtain rfl : u = Value.ref a := ry
            have h1 := ha.sq
            rw [hK] at h1
            obtain ⟨its, rv, pl, hz⟩ := I.tuple h1
            have go := eqs_dct hK I (isDct_of I hb) (A := X.A.in1) (by show X.A.units + 1 < cLine; omega) ra z2 rv
            have hf : (its.toArray.any fun _ => false) = false := by simp
            have pl' : s.heap.IsTuple a its.toArray := pl
            exact ⟨fun k => SeqAt.in_tupleAt (fun _ => false) pl' (fun y hy => go y (by simpa using hy)) ⟨.bl _, H, I, rfl, by rw [hf]; exact k⟩,
              fun k => SeqAt.notIn_tupleAt (fun _ => false) pl' (fun y hy => go y (by simpa using hy)) ⟨.bl _, H, I, rfl, by rw [hf]; exact k⟩⟩
        | _ => simp [D.isDct] at z1
    case isTrue hz =>
      cases e
      rw [Bool.and_eq_true, Bool.and_eq_true, Bool.and_eq_true, decide_eq_true_eq, decide_eq_true_eq] at hz
      obtain ⟨⟨⟨z1, z2⟩, z3⟩, z4⟩ := hz
      have d1 := px.dp z1
      have d2 := PK.dp (d := .tup xs) qy z2
      rw [hK] at d1 d2
      have hp : ((pys xs).any fun y => PyData.eqv y p.py) = xs.any fun y => D.eqv y p := pys_any _ _ xs fun y hy => py_eqv y p (plains_mem z2 hy) z1
      obtain ⟨as, r1⟩ := Dp.reads I _ x v d1 rx
      obtain ⟨bs, r2⟩ := Dp.reads I _ y u d2 ry
      have l1 := pys_lay xs z2
      have l2 := py_lay p z1
      have h1 := pys_deep xs z2
      have h2 := py_deep p z1
      have hm : min (PyData.depthAll (pys xs)) p.py.depth ≤ PyData.depthAll (pys xs) := Nat.min_le_left _ _
      refine ⟨fun k => SeqAt.in_tuple_reads r2 r1 l1 l2 (by omega) ⟨.bl _, H, I, rfl, ?_⟩, fun k => SeqAt.notIn_tuple_reads r2 r1 l1 l2 (by omega) ⟨.bl _, H, I, rfl, ?_⟩⟩
      · rw [hp]; exact k
      · rw [hp]; exact k
  · rename_i kvs
    split at e
    case isFalse => cases e
    case isTrue hk =>
      cases e
      obtain ⟨a, es, rfl, h, r⟩ := qy
      obtain ⟨k0, hk⟩ := Option.isSome_iff_exists.mp hk
      have hx := key_val px hk
      obtain rfl : u = Value.ref a := ry
      have hh : (atD kvs p).isSome = (valV es k0).isSome := by
        obtain ⟨i1, i2⟩ := r.at hk
        cases q : atD kvs p with
        | none => rw [i2 q]; rfl
        | some d => obtain ⟨v, e, _⟩ := i1 d q; rw [e]; rfl
      have g : DGet H a x (valV es k0) := .inl ⟨es, k0, .inl h, hx, rfl⟩
      rw [hh]
      exact ⟨fun k => d_in (by omega) I g rx fun s' I' => ⟨.bl _, H, I', rfl, k⟩, fun k => d_notIn (by omega) I g rx fun s' I' => ⟨.bl _, H, I', rfl, k⟩⟩
  · cases e
theorem op_cmp (hK : Y.K = X.K) (hu : X.A.units + 100 < cLine) (op : COp) : OpR X (compareOp (copOf op)) (rCmp Y op) := by
  intro pins s σ H x y v u Q I rx ry h
  obtain ⟨fg, ι, L, p, q, b, S0, px, qy, e, k⟩ := h
  unfold cmpO at e
  split at e
  case h_1 => exact (eq_ok hK hu I rx ry px qy e).1 k
  case h_2 =>
    rw [Option.map_eq_some_iff] at e
    obtain ⟨c, e, rfl⟩ := e
    exact (eq_ok hK hu I rx ry px qy e).2 k
  case h_3 i j => cases e; exact op_lt pins s σ H x y v u Q I rx ry ⟨i, j, px.int, qy.int, k⟩
  case h_4 i j => cases e; exact op_le pins s σ H x y v u Q I rx ry ⟨i, j, px.int, qy.int, k⟩
  case h_5 i j => cases e; exact op_gt pins s σ H x y v u Q I rx ry ⟨i, j, px.int, qy.int, k⟩
  case h_6 i j => cases e; exact op_ge pins s σ H x y v u Q I rx ry ⟨i, j, px.int, qy.int, k⟩
  case h_7 a c =>
    cases e
    refine op_lt_str pins s σ H x y v u Q I rx ry ⟨_, _, px.str, qy.str, ?_⟩
    rw [S_cps, S_cps, ltT_ok]; exact k
  case h_8 a c =>
    cases e
    refine op_le_str pins s σ H x y v u Q I rx ry ⟨_, _, px.str, qy.str, ?_⟩
    rw [S_cps, S_cps, ltT_ok]; exact k
  case h_9 a c =>
    cases e
    refine op_gt_str pins s σ H x y v u Q I rx ry ⟨_, _, px.str, qy.str, ?_⟩
    rw [S_cps, S_cps, ltT_ok]; exact k
  case h_10 a c =>
    cases e
    refine op_ge_str pins s σ H x y v u Q I rx ry ⟨_, _, px.str, qy.str, ?_⟩
    rw [S_cps, S_cps, ltT_ok]; exact k
  case h_11 a c =>
    cases e
    refine op_isBl pins s σ H x y v u Q I rx ry ⟨a, c, px.bl, qy.bl, ?_⟩
    rw [← Bool.beq_eq_decide_eq]; exact k
  case h_12 =>
    cases e
    refine op_isN pins s σ H x y v u Q I rx ry ⟨qy.non, ?_⟩
    rw [non_iff px]; exact k
  case h_13 a c =>
    cases e
    refine op_notBl pins s σ H x y v u Q I rx ry ⟨a, c, px.bl, qy.bl, ?_⟩
    rw [← Bool.beq_eq_decide_eq]; exact k
  case h_14 =>
    cases e
    refine op_notN pins s σ H x y v u Q I rx ry ⟨qy.non, ?_⟩
    rw [non_iff px]
    exact k
  case h_15 => exact (in_ok hK hu I rx ry px qy e).1 k
  case h_16 =>
    rw [Option.map_eq_some_iff] at e
    obtain ⟨c, e, rfl⟩ := e
    exact (in_ok hK hu I rx ry px qy e).2 k
  case h_17 => cases e

theorem tru_of (hK : Y.K = X.K) {d : D} {v : V} {b : Bool} (p : PK Y fg ι L H d v) (e : truthO d = some b) : TruV X.K v H b := by
  unfold truthO at e
  split at e
  · cases e; rw [p.non]; rfl
  · cases e; rw [p.bl]; rfl
  · cases e; rw [p.int]; rfl
  · rename_i s
    split at e
    case isFalse => cases e
    case isTrue h =>
      cases e
      rw [p.str]
      refine ⟨by rw [S_length, ← sz_eq]; exact h, ?_⟩
      rw [S_length]
      cases s <;> rfl
  · rename_i xs
    cases e
    cases (show RD Y _ H _ _ from p) with
    | tup h r =>
      have h1 := h.sq
      rw [hK] at h1
      exact .inr (.inl ⟨_, h1, by have := r.length; cases xs <;> cases r <;> rfl⟩)
  · rename_i xs
    cases e
    obtain ⟨a, vs, rfl, h, r⟩ := p
    exact .inl ⟨vs, .inl (.inl h), by cases r <;> rfl⟩
  · rename_i xs
    cases e
    obtain ⟨a, vs, rfl, h, r⟩ := p
    exact .inr (.inr ⟨vs, h, by cases r <;> rfl⟩)
  · cases e
end

section
variable {X : Cx} {Y : Lay}
theorem ixO_eq (n : Nat) (i : Int) : L2.ixN n i = ixO n i := rfl
def rGet (Y : Lay) : R2 := fun x y H Q => ∃ fg ι L p q d, Sim Y fg ι L H ∧ PK Y fg ι L H p x ∧ PK Y fg ι L H q y ∧ getO p q = some d ∧ ∀ v, RD Y (EV.av fg ι L) H d v → Q v H
theorem ix_get (hK : Y.K = X.K) (hu : X.A.units + 100 < cLine) : IxR X (rGet Y) := by
  intro value slice pins s σ H x y v u Q I rx ry h hsub
  obtain ⟨fg, ι, L, p, q, d, S0, px, qy, e, k⟩ := h
  unfold getO at e
  split at e
  · rename_i xs i
    obtain ⟨a, vs, rfl, h, r⟩ := px
    simp only [Option.bind_eq_some_iff] at e
    obtain ⟨j, e1, e2⟩ := e
    obtain ⟨w, hw, rw_⟩ := r.get e2
    refine ix_list value slice pins s σ H _ y v u Q I rx ry ⟨a, vs, i, w, rfl, qy.int, .inl (.inl h), ?_, k w rw_⟩ hsub
    unfold L2.atI
    rw [r.length, ixO_eq, e1]
    exact hw
  · rename_i xs i
    cases (show RD Y _ H _ _ from px) with
    | tup h r =>
      simp only [Option.bind_eq_some_iff] at e
      obtain ⟨j, e1, e2⟩ := e
      obtain ⟨w, hw, rw_⟩ := r.get e2
      have h1 := h.sq
      rw [hK] at h1
      refine ix_tup value slice pins s σ H _ y v u Q I rx ry ⟨_, _, i, w, rfl, qy.int, h1, ?_, k w rw_⟩ hsub
      unfold L2.atI
      rw [r.length, ixO_eq, e1]
      exact hw
  · rename_i xs i
    cases (show RD Y _ H _ _ from px) with
    | scr h =>
      simp only [Option.bind_eq_some_iff, Option.map_eq_some_iff] at e
      obtain ⟨j, e1, c, e2, rfl⟩ := e
      have h1 := h.sq
      rw [hK] at h1
      refine ix_list value slice pins s σ H _ y v u Q I rx ry ⟨_, _, i, .int c, rfl, qy.int, h1, ?_, k _ (.int c)⟩ hsub
      unfold L2.atI
      rw [List.length_map, ixO_eq, e1]
      show (xs.map V.int)[j]? = _
      rw [List.getElem?_map, e2]
      rfl
  · rename_i t i
    split at e
    case isFalse => cases e
    case isTrue hz =>
      simp only [Option.bind_eq_some_iff, Option.map_eq_some_iff] at e
      obtain ⟨j, e1, c, e2, rfl⟩ := e
      refine ix_str value slice pins s σ H _ y v u Q I rx ry ⟨S t, i, c, px.str, qy.int, by rw [S_length, ← sz_eq]; exact hz, ?_, k _ (.str [c])⟩ hsub
      unfold L2.atI
      show (L2.ixN t.length i).bind _ = _
      rw [ixO_eq, e1]
      exact e2
  · rename_i kvs
    split at e
    case isFalse => cases e
    case isTrue hk =>
      obtain ⟨a, es, rfl, h, r⟩ := px
      obtain ⟨k0, hk⟩ := Option.isSome_iff_exists.mp hk
      obtain ⟨v0, hv, rv⟩ := (r.at hk).1 d e
      have hx := key_val qy hk
      have g : DGet H a y (some v0) := .inl ⟨es, k0, .inl h, hx, hv.symm⟩
      obtain rfl : v = Value.ref a := rx
      exact tail_any (dict_typeIs I g) PySem.F.slot_dict_getitem.lookup (d_getItem (by omega) I g ry fun w' s' I' rw' => ⟨v0, H, I', rw', k v0 rv⟩) hsub
  · cases e
def rSlice (Y : Lay) : V → Option Int → Option Int → Hp → VK → Prop := fun x lo hi H Q => ∃ fg ι L p d, Sim Y fg ι L H ∧ PK Y fg ι L H p x ∧ sliceO p lo hi = some d ∧ Nw Y fg ι L H d Q
theorem endO_eq (n d : Nat) (v : Option Int) : HT.sIx n d v = endO n d v := by cases v <;> rfl
theorem RDs.cut {av : Addr → Prop} {H : Hp} {xs : List D} {vs : List V} (r : RDs Y av H xs vs) (lo hi : Option Int) : RDs Y av H (EV.cut xs lo hi) (cutV vs lo hi) := by
  unfold EV.cut cutV
  rw [endO_eq, endO_eq, r.length]
  exact (r.drop _).take _
theorem sl_slice (hK : Y.K = X.K) : SlR X (rSlice Y) := by
  intro pins s σ H x v vl vu lo hi sl Q I rx hs pl pu h
  obtain ⟨fg, ι, L, p, d, S0, px, e, n⟩ := h
  unfold sliceO at e
  split at e
  · rename_i t
    split at e
    case isFalse => cases e
    case isTrue hz =>
      cases e
      refine sl_str pins s σ H x v vl vu lo hi sl Q I rx hs pl pu ⟨S t, px.str, by rw [S_length, ← sz_eq]; exact hz, ?_⟩
      have ec : cutS (S t) lo hi = S (EV.cut t lo hi) := by
        unfold cutS EV.cut
        rw [endO_eq, endO_eq, S_length]
      rw [ec]
      exact n.same S0 (.str _)
  · rename_i xs
    cases e
    cases (show RD Y _ H _ _ from px) with
    | tup h r =>
      have h1 := h.sq
      rw [hK] at h1
      refine sl_tupA pins s σ H _ v vl vu lo hi sl Q I rx hs pl pu ⟨_, _, rfl, h1, fun z => ?_, fun z p hp => n.tup S0 (r.cut lo hi) hp⟩
      rw [r.length, endO_eq, endO_eq] at z
      have : EV.cut xs lo hi = xs := by
        unfold EV.cut
        rw [z.1, z.2]
        simp
      rw [this] at n
      exact n.same S0 (.tup h r)
  · rename_i xs
    cases e
    obtain ⟨a, vs, rfl, h, r⟩ := px
    exact sl_list pins s σ H _ v vl vu lo hi sl Q I rx hs pl pu ⟨a, vs, rfl, .inl (.inl h), fun p hp => n.lst S0 (r.cut lo hi) hp⟩
  · cases e
end
end EV

set_option maxRecDepth 100000
set_option maxHeartbeats 4000000
namespace EV
open PySem L2 PyProof.Rows
section
variable {Y : Lay} {fg : Addr → Prop} {ι : List Addr} {L : List Obj} {H : Hp}
theorem List.get_app {α : Type} (l : List α) (x : α) : (l ++ [x])[l.length]? = some x := by simp
/-- a new object of one's own -/
theorem Sim.own (s : Sim Y fg ι L H) {p : Addr} {o : Obj} {u : HO} (h : H p = none) (hl : live o = true)
    (ho : ∀ {ι' L' H'}, Ext fg ι L H ι' L' H' → H' p = some u → RO Y fg ι' L' H' o p) : Ext fg ι L H (ι ++ [p]) (L ++ [o]) (upd H p u) ∧ Sim Y fg (ι ++ [p]) (L ++ [o]) (upd H p u) := by
  have hlen := s.len
  have np : p ∉ ι := fun z => s.dom p z h
  have look : ∀ (n : Nat) (a : Addr) (ob : Obj), (ι ++ [p])[n]? = some a → (L ++ [o])[n]? = some ob → (ι[n]? = some a ∧ L[n]? = some ob) ∨ (a = p ∧ ob = o) := by
    intro n a ob h1 h2
    by_cases hn : n < ι.length
    · rw [List.getElem?_append_left hn] at h1
      rw [List.getElem?_append_left (by omega)] at h2
      exact .inl ⟨h1, h2⟩
    · have hn2 : n = ι.length := by
        have := (List.getElem?_eq_some_iff.mp h1).1
        simp at this
        omega
      subst hn2
      rw [List.get_app] at h1
      rw [hlen, List.get_app] at h2
      cases h1; cases h2
      exact .inr ⟨rfl, rfl⟩
  have e : Ext fg ι L H (ι ++ [p]) (L ++ [o]) (upd H p u) := by
    refine ⟨⟨[p], rfl⟩, fun a v q _ => by rw [upd_ne (ne_of_none q h)]; exact q, fun a z => ?_, fun a z => ?_, fun a v q _ => by rw [upd_ne (ne_of_none q h)]; exact q⟩
    · rcases z with z | ⟨n, ob, h1, h2, h3⟩
      · exact .inl (.inl z)
      · rcases look n a ob h1 h2 with ⟨k1, k2⟩ | ⟨rfl, rfl⟩
        · exact .inl (.inr ⟨n, ob, k1, k2, h3⟩)
        · exact .inr h
    · rcases List.mem_append.mp z with z | z
      · exact .inl z
      · exact .inr (by rw [List.mem_singleton.mp z]; exact h)
  have dm : ∀ a, H a ≠ none → upd H p u a ≠ none := fun a q z => by
    by_cases n : a = p
    · subst n; exact q h
    · rw [upd_ne n] at z; exact q z
  refine ⟨e, by simp [hlen], List.nodup_append.mpr ⟨s.nd, by simp, fun a ha b hb => ?_⟩, fun n a ob h1 h2 => ?_, fun a z => dm a (s.fgn a z), fun a z => ?_, fun a z => ?_⟩
  · rw [List.mem_singleton.mp hb]
    exact fun q => np (q ▸ ha)
  · rcases look n a ob h1 h2 with ⟨k1, k2⟩ | ⟨rfl, rfl⟩
    · have r := s.obj n a ob k1 k2
      cases ob with
      | lst xs =>
        obtain ⟨vs, q, r⟩ := r
        exact ⟨vs, by rw [upd_ne (ne_of_none q h)]; exact q, r.grow e.grow⟩
      | dct xs =>
        obtain ⟨vs, q, r⟩ := r
        exact ⟨vs, by rw [upd_ne (ne_of_none q h)]; exact q, r.grow e.grow⟩
      | ins c xs =>
        obtain ⟨C, dx, gs, q1, q2, r⟩ := r
        exact ⟨C, dx, gs, q1, by rw [upd_ne (ne_of_none q2 h)]; exact q2, r.ext e⟩
      | frz d => exact RD.grow e.grow r
    · exact ho e upd_same
  · rcases List.mem_append.mp z with z | z
    · exact s.fgi a z
    · rw [List.mem_singleton.mp z]
      exact fun q => s.fgn p q h
  · rcases List.mem_append.mp z with z | z
    · exact dm a (s.dom a z)
    · rw [List.mem_singleton.mp z, upd_same]
      exact fun q => by cases q
/-- what a result, perhaps new and one's own, must bear -/
def NwF (Y : Lay) (fg : Addr → Prop) (ι : List Addr) (L : List Obj) (H : Hp) (m : Bool) (d : D) (Q : VK) : Prop :=
  match fresh m d L with
  | .ok w L' => ∀ v ι' H', Ext fg ι L H ι' L' H' → Sim Y fg ι' L' H' → RW Y fg ι' L' H' w v → Q v H'
  | _ => False
theorem NwF.nw {m : Bool} {d : D} {Q : VK} (n : NwF Y fg ι L H m d Q) (h : ∀ xs, d ≠ .lst xs) (h2 : ∀ xs, d ≠ .dct xs) : Nw Y fg ι L H d Q := by
  unfold NwF fresh at n
  cases m with
  | false => exact fun v H' e s r => n v ι H' e s r
  | true =>
    cases d with
    | lst xs => exact absurd rfl (h xs)
    | dct xs => exact absurd rfl (h2 xs)
    | _ => exact n.elim
theorem NwF.lst {m : Bool} {xs : List D} {vs : List V} {Q : VK} (n : NwF Y fg ι L H m (.lst xs) Q) (s : Sim Y fg ι L H) (r : RDs Y (av fg ι L) H xs vs) {p : Addr} (h : H p = none) : Q (.ref p) (upd H p (.lst vs)) := by
  cases m with
  | false => exact Nw.lst (fun v H' e s r => n v ι H' e s r) s r h
  | true =>
    obtain ⟨e, s'⟩ := s.own (o := .lst xs) (u := .lst vs) h rfl fun {ι' L' H'} e q => ⟨vs, q, r.grow e.grow⟩
    refine n (.ref p) _ _ e s' ⟨p, rfl, ?_⟩
    show (ι ++ [p])[L.length]? = some p
    rw [← s.len, List.get_app]
theorem NwF.dct {m : Bool} {xs : List (D × D)} {vs : List (Key × V)} {Q : VK} (n : NwF Y fg ι L H m (.dct xs) Q) (s : Sim Y fg ι L H) (r : RDk Y (av fg ι L) H xs vs) {p : Addr} (h : H p = none) : Q (.ref p) (upd H p (.dK vs)) := by
  cases m with
  | false => exact Nw.dct (fun v H' e s r => n v ι H' e s r) s r h
  | true =>
    obtain ⟨e, s'⟩ := s.own (o := .dct xs) (u := .dK vs) h rfl fun {ι' L' H'} e q => ⟨vs, q, r.grow e.grow⟩
    refine n (.ref p) _ _ e s' ⟨p, rfl, ?_⟩
    show (ι ++ [p])[L.length]? = some p
    rw [← s.len, List.get_app]
inductive PKs (Y : Lay) (fg : Addr → Prop) (ι : List Addr) (L : List Obj) (H : Hp) : List D → List V → Prop
  | nil : PKs Y fg ι L H [] []
  | cons {d : D} {v : V} {ds : List D} {vs : List V} : PK Y fg ι L H d v → PKs Y fg ι L H ds vs → PKs Y fg ι L H (d :: ds) (v :: vs)
theorem peeks_ok (s : Sim Y fg ι L H) : ∀ {ws : List W} {vs : List V} {ds : List D}, RWs Y fg ι L H ws vs → peeks ws L = some ds → PKs Y fg ι L H ds vs
  | _, _, _, .nil, e => by
    simp only [peeks, Option.some.injEq] at e
    subst e
    exact .nil
  | _, _, _, .cons r rs, e => by
    simp only [peeks, Option.bind_eq_some_iff, Option.map_eq_some_iff] at e
    obtain ⟨d, e1, ds, e2, rfl⟩ := e
    exact .cons (peek_ok s r e1) (peeks_ok s rs e2)
theorem PKs.one {d : D} {vs : List V} (h : PKs Y fg ι L H [d] vs) : ∃ v, vs = [v] ∧ PK Y fg ι L H d v := by
  cases h with
  | cons p q => cases q; exact ⟨_, rfl, p⟩
theorem PKs.two {d e : D} {vs : List V} (h : PKs Y fg ι L H [d, e] vs) : ∃ v w, vs = [v, w] ∧ PK Y fg ι L H d v ∧ PK Y fg ι L H e w := by
  cases h with
  | cons p q =>
    obtain ⟨w, rfl, q2⟩ := q.one
    exact ⟨_, _, rfl, p, q2⟩
theorem RDs.bls {av : Addr → Prop} : ∀ {xs : List D} {vs : List V} {bs : List Bool}, RDs Y av H xs vs → boolsO xs = some bs → vs = bs.map V.bl
  | _, _, _, .nil, e => by
    simp only [boolsO, Option.some.injEq] at e
    subst e; rfl
  | _, _, _, .cons (x := x) r rs, e => by
    cases r <;> simp only [boolsO, Option.map_eq_some_iff, reduceCtorEq] at e
    obtain ⟨bs, e, rfl⟩ := e
    rw [RDs.bls rs e]; rfl
theorem RDs.ints {av : Addr → Prop} : ∀ {xs : List D} {vs : List V} {bs : List Int}, RDs Y av H xs vs → intsO xs = some bs → vs = bs.map V.int
  | _, _, _, .nil, e => by
    simp only [intsO, Option.some.injEq] at e
    subst e; rfl
  | _, _, _, .cons (x := x) r rs, e => by
    cases r <;> simp only [intsO, Option.map_eq_some_iff, reduceCtorEq] at e
    obtain ⟨bs, e, rfl⟩ := e
    rw [RDs.ints rs e]; rfl
theorem RDs.strs {av : Addr → Prop} : ∀ {xs : List D} {vs : List V} {bs : List T}, RDs Y av H xs vs → strsO xs = some bs → vs = (bs.map S).map V.str
  | _, _, _, .nil, e => by
    simp only [strsO, Option.some.injEq] at e
    subst e; rfl
  | _, _, _, .cons (x := x) r rs, e => by
    cases r <;> simp only [strsO, Option.map_eq_some_iff, reduceCtorEq] at e
    obtain ⟨bs, e, rfl⟩ := e
    rw [RDs.strs rs e]; rfl
end
end EV

namespace EV
open PySem L2 PyProof.Rows
def tyName : Nat → String
  | 0 => "str" | 1 => "int" | 2 => "bool" | 3 => "tuple" | 4 => "list" | 5 => "dict" | _ => "NoneType"
theorem kitB_all : ((List.range 7).all fun u => (List.range 6).all fun t => decide (kitB (tyName u) (tyName t) = some (u == t || (u == 2 && t == 1)))) = true := by decide +kernel
theorem kitB_ok {u t : Nat} (hu : u < 7) (ht : t < 6) : kitB (tyName u) (tyName t) = some (u == t || (u == 2 && t == 1)) := by
  have h := kitB_all
  rw [List.all_eq_true] at h
  have h1 := h u (List.mem_range.mpr hu)
  rw [List.all_eq_true] at h1
  exact of_decide_eq_true (h1 t (List.mem_range.mpr ht))
section
variable {Y : Lay} {fg : Addr → Prop} {ι : List Addr} {L : List Obj} {H : Hp} {X : Cx}
theorem tyX_of (hK : Y.K = X.K) {d : D} {v : V} {u : Nat} (p : PK Y fg ι L H d v) (e : tyOf d = some u) : TyX X.K H v (.type (tyName u)) ∧ u < 7 := by
  cases d with
  | non => cases e; rw [p.non]; exact ⟨.base .non, by decide⟩
  | bl b => cases e; rw [p.bl]; exact ⟨.base (.bl _), by decide⟩
  | int i => cases e; rw [p.int]; exact ⟨.base (.int _), by decide⟩
  | str s => cases e; rw [p.str]; exact ⟨.base (.str _), by decide⟩
  | tup xs =>
    cases e
    cases (show RD Y _ H _ _ from p) with
    | tup h r =>
      rcases h with ⟨h | ⟨o, h⟩, _⟩ | ⟨o, its, n, h1, h2, _⟩
      · exact ⟨.base (.tup h), by decide⟩
      · exact ⟨.fTuple h, by decide⟩
      · rw [hK] at h1
        exact ⟨.kTuple h1 h2, by decide⟩
  | lst xs =>
    cases e
    obtain ⟨a, vs, rfl, h, r⟩ := p
    exact ⟨.base (.lst h), by decide⟩
  | dct kvs =>
    cases e
    obtain ⟨a, es, rfl, h, r⟩ := p
    exact ⟨.base (.dK h), by decide⟩
  | ins c fs => cases e
  | ty n => cases e
  | cls n => cases e
  | scr n => cases e
theorem count_drop (c : Nat) (s : T) : ∀ (cuts : List Nat) (a f : Nat), a ≤ s.length → StrLaws.ChainG (S s) (S [c]) s.length a cuts f → (∀ k, f ≤ k → ¬ StrLaws.At (S s) (S [c]) s.length k) → (s.drop a).count c = cuts.length := by
  have at_ : ∀ k, StrLaws.At (S s) (S [c]) s.length k ↔ s[k]? = some c := by
    intro k
    have h := TL.at_iff (x := S s) (y := S [c]) (by simp) k
    rw [S_length] at h
    rw [h]
    have e : TL.pre (TL.tl (S [c])) ((TL.tl (S s)).drop k) = ((s.drop k).take 1 == [c]) := rfl
    rw [e]
    by_cases hk : k < s.length
    · rw [List.drop_eq_getElem_cons hk, List.take_succ_cons, List.take_zero, List.getElem?_eq_getElem hk]
      simp
    · rw [List.drop_eq_nil_of_le (by omega), List.getElem?_eq_none (by omega)]
      simp
  intro cuts
  induction cuts with
  | nil =>
    intro a f ha h hn
    have e : f = a := h
    subst e
    rw [List.length_nil, List.count_eq_zero]
    intro hm
    obtain ⟨j, hj, e⟩ := List.mem_iff_getElem.mp hm
    refine hn (f + j) (by omega) ((at_ _).mpr ?_)
    rw [List.getElem_drop] at e
    rw [List.getElem?_eq_getElem (by rw [List.length_drop] at hj; omega), e]
  | cons b r ih =>
    intro a f ha h hn
    obtain ⟨h1, h2, h3, h4⟩ := h
    have hb := (at_ b).mp h2
    have hl := (List.getElem?_eq_some_iff.mp hb).1
    have hl1 : (S [c]).length = 1 := rfl
    rw [hl1] at h4
    have e := ih (b + 1) f (by omega) h4 hn
    have e1 : s.drop a = (s.drop a).take (b - a) ++ c :: s.drop (b + 1) := by
      have q : (s.drop a).drop (b - a) = c :: s.drop (b + 1) := by
        rw [List.drop_drop, show a + (b - a) = b by omega, List.drop_eq_getElem_cons hl]
        have := (List.getElem?_eq_some_iff.mp hb).2
        rw [this]
      rw [← q, List.take_append_drop]
    have e2 : ((s.drop a).take (b - a)).count c = 0 := by
      rw [List.count_eq_zero]
      intro hm
      obtain ⟨j, hj, ej⟩ := List.mem_iff_getElem.mp hm
      rw [List.length_take, List.length_drop] at hj
      rw [List.getElem_take, List.getElem_drop] at ej
      refine h3 (a + j) (by omega) (by omega) ((at_ _).mpr ?_)
      rw [List.getElem?_eq_getElem (by omega), ej]
    rw [e1, List.count_append, List.count_cons_self, e2, e, List.length_cons]
    omega
theorem count_ok (s : T) (c : Nat) : Txt.count (S s) (S [c]) = (s.count c : Int) := by
  obtain ⟨f, g, hn⟩ := StrLaws.occ_tight (S s) (S [c]) (by show 1 ≤ 1; decide)
  rw [S_length] at g hn
  have e := count_drop c s _ 0 f (Nat.zero_le _) g hn
  rw [List.drop_zero] at e
  show ((Builtin.Str.occurrences (S s) (S [c]) 0 (S s).length ((S s).length + 1)).length : Int) = _
  rw [S_length, ← e]
theorem join_ok (a : T) : ∀ ys : List T, Txt.join (S a) (ys.map S) = S (joinT a ys) := by
  intro ys
  rw [TL.join_eq]
  induction ys with
  | nil => rfl
  | cons y r ih =>
    cases r with
    | nil => rfl
    | cons z r =>
      show S y ++ S a ++ Str.join (S a) ((z :: r).map S) = S (y ++ a ++ joinT a (z :: r))
      rw [ih, S_append, S_append]
theorem signs_vals {s : T} : ∀ {acc : Array Value}, ItemsOf (SignAt (S s)) acc (S s).cps.size → Vals ((s.map fun c => V.str (S [c]))) acc.toList := by
  intro acc h
  obtain ⟨hz, h⟩ := h
  have hl : acc.toList.length = s.length := by
    rw [Array.length_toList, hz]; simp
  have gen : ∀ (l : List Value) (t : T), l.length = t.length → (∀ (j : Nat) (v : Value), l[j]? = some v → ∃ c u, t[j]? = some c ∧ v = Value.str (S [c]) u) → Vals (t.map fun c => V.str (S [c])) l := by
    intro l
    induction l with
    | nil =>
      intro t hl _
      cases t with
      | nil => exact .nil
      | cons _ _ => simp at hl
    | cons v l ih =>
      intro t hl hh
      cases t with
      | nil => simp at hl
      | cons c t =>
        obtain ⟨c', u, e1, e2⟩ := hh 0 v rfl
        simp only [List.getElem?_cons_zero, Option.some.injEq] at e1
        subst e1
        refine .cons ⟨u, e2⟩ (ih t (by simpa using hl) fun j w hw => hh (j + 1) w (by simpa using hw))
  refine gen acc.toList s hl fun j v hv => ?_
  obtain ⟨c, u, e1, e2⟩ := h j v (by simpa using hv)
  exact ⟨c, u, by simpa using e1, e2⟩
theorem RDs.signs {av : Addr → Prop} : ∀ (s : T), RDs Y av H (s.map fun c => D.str [c]) (s.map fun c => V.str (S [c]))
  | [] => .nil
  | c :: r => .cons (.str [c]) (RDs.signs r)
/-- list(text), tuple(text) -/
theorem call_listS (hc : X.calm = true) : CallR X (.type "list") (fun xs H Q => ∃ s : T, xs = [.str (S s)] ∧ s.length ≤ sizeLine ∧ ∀ p, H p = none → Q (.ref p) (upd H p (.lst (s.map fun c => V.str (S [c]))))) := by
  intro pins s σ H xs us Q I r h
  obtain ⟨t, rfl, hz, q⟩ := h
  obtain ⟨u, rfl, rx⟩ := vals1 r
  obtain ⟨tk, rfl⟩ := rx
  refine call_list_str (I.ok.hd hc) (S t) tk (fun h' tk' acc c' hk hS hacc => ?_) (by show t.toArray.size ≤ sizeLine; rw [List.size_toArray]; exact hz)
  have hv := signs_vals hacc
  exact ⟨.ref s.heap.objs.size, _, I.laid (t' := tk') hk (Nat.le_refl _) (show ObjOk X.prog X.w _ h' _ (.lst _) from ⟨by rw [List.length_map]; exact hz, acc.toList, c', hv, by simpa using hS⟩), rfl, q _ (I.hok.fresh (Nat.le_refl _))⟩
theorem call_tupleS (hc : X.calm = true) : CallR X (.type "tuple") (fun xs H Q => ∃ s : T, xs = [.str (S s)] ∧ s.length ≤ sizeLine ∧ ∀ p, H p = none → Q (.ref p) (upd H p (.tup (s.map fun c => V.str (S [c]))))) := by
  intro pins s σ H xs us Q I r h
  obtain ⟨t, rfl, hz, q⟩ := h
  obtain ⟨u, rfl, rx⟩ := vals1 r
  obtain ⟨tk, rfl⟩ := rx
  refine call_tuple_str (I.ok.hd hc) (S t) tk (fun h' tk' acc hk hacc => ?_) (by show t.toArray.size ≤ sizeLine; rw [List.size_toArray]; exact hz)
  have hv := signs_vals hacc
  have I1 : L2.Inv X pins σ H { s with heap := h', toks := tk' } := I.kept hk
  refine ⟨.ref h'.objs.size, _, I1.laid (t' := tk') (fun b o e => Heap.get?_push_of_some _ e) (Nat.le_refl _) (show ObjOk X.prog X.w _ _ _ (.tup _) from ⟨by rw [List.length_map]; exact hz, acc.toList, hv, ?_⟩), rfl, q _ (I1.hok.fresh (Nat.le_refl _))⟩
  simpa using IsTup.new h' acc
mutual
theorem nodict1 : ∀ d : D, d.py.hasDict = false
  | .non => rfl
  | .bl _ => rfl
  | .int _ => rfl
  | .str _ => rfl
  | .tup xs => by simp only [D.py, PyData.hasDict]; exact nodicts xs
  | .lst xs => by simp only [D.py, PyData.hasDict]; exact nodicts xs
  | .dct _ => rfl
  | .ins _ _ => rfl
  | .ty _ => rfl
  | .cls _ => rfl
  | .scr _ => rfl
theorem nodicts : ∀ ds : List D, PyData.hasDictAll (pys ds) = false
  | [] => rfl
  | x :: xs => by simp only [pys, PyData.hasDictAll, nodict1 x, nodicts xs, Bool.or_self]
end
theorem call_reprD (hgu : X.A.guards = some []) (hu : X.A.units + 100 < cLine) (hK : Y.K = X.K) {fg : Addr → Prop} {ι : List Addr} {L : List Obj} {d : D} {t : T} (e : reprO d = some t) : CallR X (.builtin "repr") (fun xs H Q => ∃ v, xs = [v] ∧ PK Y fg ι L H d v ∧ Q (.str (S t)) H) := by
  intro pins s σ H xs us Q I r h
  obtain ⟨v, rfl, p, q⟩ := h
  unfold reprO at e
  split at e
  case isFalse => cases e
  case isTrue hz =>
  simp only [Bool.and_eq_true, decide_eq_true_eq] at hz
  obtain ⟨⟨⟨h1, h2⟩, h3⟩, h4⟩ := hz
  cases e
  have q' : Q (.str d.py.shown) H := q
  have dp := p.dp h1
  rw [hK] at dp
  obtain ⟨u, rfl, rx⟩ := vals1 r
  obtain ⟨as, rd⟩ := Dp.reads I _ _ _ dp rx
  have hd := py_deep d h1
  cases v with
  | ref a =>
    cases (show u = Value.ref a from rx)
    refine repr_of_reads' rd h3 (fun z => by rw [nodict1 d] at z; cases z) hgu (by rw [hd]; omega) (fun _ _ z => z) (fun h' u tk hk => ?_) h4
    exact ⟨.str d.py.shown, H, I.kept (h' := h') (t' := tk) hk, ⟨u, rfl⟩, q'⟩
  | non =>
    cases (show u = Value.none from rx)
    generalize hdd : d.py = dd at *
    cases rd
    exact PySem.P.repr_of_none ⟨.str _, H, I.tok _, ⟨_, rfl⟩, q'⟩
  | bl b =>
    cases (show u = Value.bool b from rx)
    generalize hdd : d.py = dd at *
    cases rd
    exact PySem.P.repr_of_bool ⟨.str _, H, I.tok _, ⟨_, rfl⟩, q'⟩
  | int i =>
    obtain ⟨tk, rfl⟩ := (show ∃ t, u = Value.int i t from rx)
    generalize hdd : d.py = dd at *
    cases rd
    exact PySem.P.repr_of_int (by simpa [PyData.showable] using h3) ⟨.str _, H, I.tok _, ⟨_, rfl⟩, q'⟩
  | str z =>
    obtain ⟨tk, rfl⟩ := (show ∃ t, u = Value.str z t from rx)
    generalize hdd : d.py = dd at *
    cases rd
    exact PySem.P.repr_of_str ⟨.str _, H, I.tok _, ⟨_, rfl⟩, q'⟩ h4
  | _ =>
    generalize hdd : d.py = dd at *
    cases dp
end
end EV

set_option maxRecDepth 100000
set_option maxHeartbeats 4000000
namespace EV
open PySem L2 PyProof.Rows
section
variable {Y : Lay} {av : Addr → Prop} {H : Hp}
theorem RDk.any {k : D} {q : Key} (hq : keyD k = some q) : ∀ {kvs : List (D × D)} {es : List (Key × V)}, RDk Y av H kvs es → (kvs.any fun p => decide (keyD p.1 = keyD k)) = (es.any fun kv => decide (kv.1 = q))
  | _, _, .nil => rfl
  | _, _, .cons h r rs => by
    rw [List.any_cons, List.any_cons, RDk.any hq rs, h, hq]
    simp
theorem RDk.mp {k x : D} {v : V} {q : Key} (hq : keyD k = some q) (rx : RD Y av H x v) : ∀ {kvs : List (D × D)} {es : List (Key × V)}, RDk Y av H kvs es →
    RDk Y av H (kvs.map fun p => if keyD p.1 = keyD k then (p.1, x) else p) (es.map fun kv => if kv.1 = q then (kv.1, v) else kv)
  | _, _, .nil => .nil
  | _, _, .cons (k := k0) (q := q0) h r rs => by
    rw [List.map_cons, List.map_cons]
    dsimp only
    rw [h, hq]
    by_cases z : q0 = q
    · subst z
      rw [if_pos rfl, if_pos rfl]
      have := RDk.mp hq rx rs
      rw [hq] at this
      exact .cons h rx this
    · rw [if_neg (by simpa using z), if_neg z]
      have := RDk.mp hq rx rs
      rw [hq] at this
      exact .cons h r this
theorem RDk.app : ∀ {a b : List (D × D)} {u v : List (Key × V)}, RDk Y av H a u → RDk Y av H b v → RDk Y av H (a ++ b) (u ++ v)
  | _, _, _, _, .nil, s => s
  | _, _, _, _, .cons h r t, s => .cons h r (RDk.app t s)
theorem RDk.put {k x : D} {v : V} {q : Key} (hq : keyD k = some q) (rx : RD Y av H x v) {kvs : List (D × D)} {es : List (Key × V)} (r : RDk Y av H kvs es) : RDk Y av H (putD kvs k x) (putK es q v) := by
  unfold putD putK
  rw [RDk.any hq r]
  split
  · exact RDk.mp hq rx r
  · exact r.app (.cons hq rx .nil)
theorem RDk.merge : ∀ {more kvs : List (D × D)} {ms es : List (Key × V)}, RDk Y av H more ms → RDk Y av H kvs es → RDk Y av H (mergeD kvs more) (mergeK es ms)
  | _, _, _, _, .nil, s => s
  | _, _, _, _, .cons h r t, s => by
    have z := RDk.merge t (s.put h r)
    exact z
end
def bnVal : Bn → Value
  | .len => .builtin "len" | .abs => .builtin "abs" | .int => .type "int" | .max => .builtin "max" | .min => .builtin "min" | .isin _ => .builtin "isinstance"
  | .all => .builtin "all" | .any => .builtin "any" | .sum => .builtin "sum" | .tuple => .type "tuple" | .list => .type "list" | .repr => .builtin "repr" | .sorted => .builtin "sorted" | .dict => .type "dict"
def bnMore : Bn → List V
  | .isin t => [.ty (tyName t)]
  | _ => []
def bnOk : Bn → Bool
  | .isin t => decide (t < 6)
  | _ => true
section
variable {X : Cx} {Y : Lay}
def rBn (Y : Lay) (m : Bool) (b : Bn) : List V → Hp → VK → Prop := fun xs H Q => ∃ fg ι L ds d vs, Sim Y fg ι L H ∧ PKs Y fg ι L H ds vs ∧ bnO b ds = some d ∧ xs = vs ++ bnMore b ∧ NwF Y fg ι L H m d Q
theorem cr_bn (hK : Y.K = X.K) (hgu : X.A.guards = some []) (hu : X.A.units + 100 < cLine) (hc : X.calm = true) (m : Bool) (b : Bn) (hb : bnOk b = true) : CallR X (bnVal b) (rBn Y m b) := by
  intro pins s σ H xs us Q I r h
  obtain ⟨fg, ι, L, ds, d, vs, S0, pp, e, rfl, n⟩ := h
  unfold bnO at e
  split at e
  · -- len of a text
    rename_i t
    split at e
    case isFalse => cases e
    case isTrue hz =>
      cases e
      obtain ⟨v, rfl, p⟩ := pp.one
      refine call_len_str pins s σ H _ us Q I r ⟨S t, by rw [p.str]; rfl, by rw [S_length, ← sz_eq]; exact hz, ?_⟩
      rw [S_length]
      exact (n.nw (fun _ => nofun) fun _ => nofun).same S0 (.int _)
  · cases e
    obtain ⟨v, rfl, p⟩ := pp.one
    obtain ⟨a, ws, rfl, h0, q⟩ := p
    have h := Rd.of h0
    refine call_len_seq pins s σ H _ us Q I r ⟨a, ws, rfl, .inl (.inl h), ?_⟩
    rw [q.length]
    exact (n.nw (fun _ => nofun) fun _ => nofun).same S0 (.int _)
  · cases e
    obtain ⟨v, rfl, p⟩ := pp.one
    cases (show RD Y _ H _ _ from p) with
    | tup h q =>
      have h1 := h.sq
      rw [hK] at h1
      refine call_len_seq pins s σ H _ us Q I r ⟨_, _, rfl, .inr h1, ?_⟩
      rw [q.length]
      exact (n.nw (fun _ => nofun) fun _ => nofun).same S0 (.int _)
  · cases e
    obtain ⟨v, rfl, p⟩ := pp.one
    cases (show RD Y _ H _ _ from p) with
    | scr h =>
      have h1 := h.sq
      rw [hK] at h1
      refine call_len_seq pins s σ H _ us Q I r ⟨_, _, rfl, .inl h1, ?_⟩
      rw [List.length_map]
      exact (n.nw (fun _ => nofun) fun _ => nofun).same S0 (.int _)
  · -- abs
    rename_i i
    cases e
    obtain ⟨v, rfl, p⟩ := pp.one
    refine call_abs pins s σ H _ us Q I r ⟨i, by rw [p.int]; rfl, ?_⟩
    have e : (if i < 0 then -i else i) = (i.natAbs : Int) := by split <;> omega
    rw [e]
    exact (n.nw (fun _ => nofun) fun _ => nofun).same S0 (.int _)
  · rename_i i
    cases e
    obtain ⟨v, rfl, p⟩ := pp.one
    exact call_int1 pins s σ H _ us Q I r (.inl ⟨i, by rw [p.int]; rfl, (n.nw (fun _ => nofun) fun _ => nofun).same S0 (.int _)⟩)
  · rename_i i
    cases e
    obtain ⟨v, rfl, p⟩ := pp.one
    exact call_int1 pins s σ H _ us Q I r (.inr ⟨i, by rw [p.bl]; rfl, (n.nw (fun _ => nofun) fun _ => nofun).same S0 (.int _)⟩)
  · rename_i i j
    cases e
    obtain ⟨v, w, rfl, p, q⟩ := pp.two
    exact call_max2 hc pins s σ H _ us Q I r ⟨i, j, by rw [p.int, q.int]; rfl, (n.nw (fun _ => nofun) fun _ => nofun).same S0 (.int _)⟩
  · rename_i i j
    cases e
    obtain ⟨v, w, rfl, p, q⟩ := pp.two
    exact call_min2 hc pins s σ H _ us Q I r ⟨i, j, by rw [p.int, q.int]; rfl, (n.nw (fun _ => nofun) fun _ => nofun).same S0 (.int _)⟩
  · rename_i t x
    unfold isO at e
    simp only [Option.map_eq_some_iff] at e
    obtain ⟨bb, ⟨u, hu, rfl⟩, rfl⟩ := e
    obtain ⟨v, rfl, p⟩ := pp.one
    obtain ⟨ty, hu7⟩ := tyX_of hK p hu
    exact call_isi pins s σ H _ us Q I r ⟨v, .ty (tyName t), _, .type (tyName t), _, rfl, .ty _, ty, kit_ty (kitB_ok hu7 (of_decide_eq_true hb)), (n.nw (fun _ => nofun) fun _ => nofun).same S0 (.bl _)⟩
  · simp only [Option.map_eq_some_iff] at e
    obtain ⟨bs, hb, rfl⟩ := e
    obtain ⟨v, rfl, p⟩ := pp.one
    obtain ⟨a, ws, rfl, h0, q⟩ := p
    have h := Rd.of h0
    have := q.bls hb
    subst this
    exact cr_all hc pins s σ H _ us Q I r ⟨a, bs, rfl, .inl h, (n.nw (fun _ => nofun) fun _ => nofun).same S0 (.bl _)⟩
  · simp only [Option.map_eq_some_iff] at e
    obtain ⟨bs, hb, rfl⟩ := e
    obtain ⟨v, rfl, p⟩ := pp.one
    obtain ⟨a, ws, rfl, h0, q⟩ := p
    have h := Rd.of h0
    have := q.bls hb
    subst this
    exact cr_any hc pins s σ H _ us Q I r ⟨a, bs, rfl, .inl h, (n.nw (fun _ => nofun) fun _ => nofun).same S0 (.bl _)⟩
  · simp only [Option.map_eq_some_iff] at e
    obtain ⟨bs, hb, rfl⟩ := e
    obtain ⟨v, rfl, p⟩ := pp.one
    obtain ⟨a, ws, rfl, h0, q⟩ := p
    have h := Rd.of h0
    have := q.ints hb
    subst this
    exact cr_sum hc pins s σ H _ us Q I r ⟨a, bs, rfl, .inl h, (n.nw (fun _ => nofun) fun _ => nofun).same S0 (.int _)⟩
  · cases e
    obtain ⟨v, rfl, p⟩ := pp.one
    obtain ⟨a, ws, rfl, h0, q⟩ := p
    have h := Rd.of h0
    exact call_tuple_of pins s σ H _ us Q I r ⟨a, ws, rfl, .inl ⟨.inl h, fun l hl => (n.nw (fun _ => nofun) fun _ => nofun).tup S0 q hl⟩⟩
  · cases e
    obtain ⟨v, rfl, p⟩ := pp.one
    cases (show RD Y _ H _ _ from p) with
    | tup h q =>
      have h1 := h.sq
      rw [hK] at h1
      exact call_tuple_of pins s σ H _ us Q I r ⟨_, _, rfl, .inr ⟨h1, (n.nw (fun _ => nofun) fun _ => nofun).same S0 (.tup h q)⟩⟩
  · rename_i t
    split at e
    case isFalse => cases e
    case isTrue hz =>
      cases e
      obtain ⟨v, rfl, p⟩ := pp.one
      exact call_tupleS hc pins s σ H _ us Q I r ⟨t, by rw [p.str]; rfl, by rw [← sz_eq]; exact hz, fun l hl => (n.nw (fun _ => nofun) fun _ => nofun).tup S0 (RDs.signs t) hl⟩
  · cases e
    obtain ⟨v, rfl, p⟩ := pp.one
    obtain ⟨a, ws, rfl, h0, q⟩ := p
    have h := Rd.of h0
    exact call_list_of pins s σ H _ us Q I r ⟨a, ws, rfl, .inl (.inl h), fun l hl => n.lst S0 q hl⟩
  · cases e
    obtain ⟨v, rfl, p⟩ := pp.one
    cases (show RD Y _ H _ _ from p) with
    | tup h q =>
      have h1 := h.sq
      rw [hK] at h1
      exact call_list_of pins s σ H _ us Q I r ⟨_, _, rfl, .inr h1, fun l hl => n.lst S0 q hl⟩
  · rename_i t
    split at e
    case isFalse => cases e
    case isTrue hz =>
      cases e
      obtain ⟨v, rfl, p⟩ := pp.one
      exact call_listS hc pins s σ H _ us Q I r ⟨t, by rw [p.str]; rfl, by rw [← sz_eq]; exact hz, fun l hl => n.lst S0 (RDs.signs t) hl⟩
  · simp only [Option.map_eq_some_iff] at e
    obtain ⟨t, ht, rfl⟩ := e
    obtain ⟨v, rfl, p⟩ := pp.one
    refine call_reprD (Y := Y) (fg := fg) (ι := ι) (L := L) hgu hu hK ht pins s σ H _ us Q I r ⟨v, by simp [bnMore], p, (n.nw (fun _ => nofun) fun _ => nofun).same S0 (.str _)⟩
  · simp only [Option.map_eq_some_iff] at e
    obtain ⟨ns, hb, rfl⟩ := e
    obtain ⟨v, rfl, p⟩ := pp.one
    obtain ⟨a, ws, rfl, h0, q⟩ := p
    have h := Rd.of h0
    have := q.ints hb
    subst this
    refine cr_sortedI pins s σ H _ us Q I r ⟨a, ns, rfl, .inl h, fun ns' pa hp hs hn => ?_⟩
    obtain rfl : ns' = sortI ns := perm_uniq (hp.trans (sortI_perm ns).symm) hs (sortI_sorted ns)
    have rr : ∀ l : List Int, RDs Y (av fg ι L) H (l.map .int) (l.map V.int) := fun l => by
      induction l with
      | nil => exact .nil
      | cons z l ih => exact .cons (.int z) ih
    exact n.lst S0 (rr _) hn
  · simp only [Option.map_eq_some_iff] at e
    obtain ⟨ps, hb, rfl⟩ := e
    obtain ⟨v, rfl, p⟩ := pp.one
    obtain ⟨a, ws, rfl, h0, q⟩ := p
    obtain ⟨as, kvs, rfl, h2, h3⟩ := q.pairs hb
    rw [hK] at h2
    exact call_dictP hc pins s σ H _ us Q I r ⟨a, as, kvs, rfl, .inl (Rd.of h0), h2, fun l hl => n.dct S0 (RDk.merge h3 .nil) hl⟩
  · cases e
    obtain ⟨v, rfl, p⟩ := pp.one
    obtain ⟨a, es, rfl, h0, q⟩ := p
    exact call_dictD pins s σ H _ us Q I r ⟨a, es, rfl, .inl h0, fun l hl => n.dct S0 q hl⟩
  · cases e
    obtain ⟨v, rfl, p⟩ := pp.one
    obtain ⟨a, es, rfl, h0, q⟩ := p
    refine call_lenD pins s σ H _ us Q I r ⟨a, es, rfl, h0, ?_⟩
    rw [q.length]
    exact (n.nw (fun _ => nofun) fun _ => nofun).same S0 (.int _)
  · cases e
def mnId : Mn → String
  | .join => "str.join" | .count => "str.count" | .lower => "str.lower" | .isalpha => "str.isalpha" | .index => "str.index"
def rMn (Y : Lay) (m : Bool) (b : Mn) : V → List V → Hp → VK → Prop := fun x xs H Q => ∃ fg ι L o ds d, Sim Y fg ι L H ∧ PK Y fg ι L H o x ∧ PKs Y fg ι L H ds xs ∧ mnO b o ds = some d ∧ NwF Y fg ι L H m d Q
theorem mt_mn (hK : Y.K = X.K) (m : Bool) (b : Mn) : MtR X (mnId b) (rMn Y m b) := by
  intro pins s σ H x xs v us Q I rx r h
  obtain ⟨fg, ι, L, o, ds, d, S0, po, pp, e, n⟩ := h
  unfold mnO at e
  split at e
  · rename_i a ws
    simp only [Option.bind_eq_some_iff] at e
    obtain ⟨ys, hy, e⟩ := e
    split at e
    case isFalse => cases e
    case isTrue hz =>
      cases e
      obtain ⟨v1, rfl, p⟩ := pp.one
      obtain ⟨l, vs, rfl, h0, q⟩ := p
      have h := Rd.of h0
      have := q.strs hy
      subst this
      refine mt_join pins s σ H x _ v us Q I rx r ⟨S a, l, ys.map S, po.str, rfl, .inl (.inl h), ?_, ?_⟩
      · have e1 : (ys.map S).map (·.length) = ys.map (·.length) := by rw [List.map_map]; exact List.map_congr_left fun y _ => S_length y
        rw [e1, List.length_map, S_length]
        exact hz
      · rw [join_ok]
        exact (n.nw (fun _ => nofun) fun _ => nofun).same S0 (.str _)
  · rename_i a c
    cases e
    obtain ⟨v1, rfl, p⟩ := pp.one
    refine mt_count pins s σ H x _ v us Q I rx r ⟨S a, S [c], po.str, by rw [p.str], ?_⟩
    rw [count_ok]
    exact (n.nw (fun _ => nofun) fun _ => nofun).same S0 (.int _)
  · rename_i a
    split at e
    case isFalse => cases e
    case isTrue hz =>
      cases e
      cases pp
      refine mt_lower pins s σ H x _ v us Q I rx r ⟨S a, po.str, rfl, by rw [S_length]; exact hz, ?_⟩
      exact (n.nw (fun _ => nofun) fun _ => nofun).same S0 (.str (lowT a))
  · rename_i a
    cases e
    cases pp
    exact mt_isalpha pins s σ H x _ v us Q I rx r ⟨S a, po.str, rfl, trivial, (n.nw (fun _ => nofun) fun _ => nofun).same S0 (.bl _)⟩
  · rename_i a b
    simp only [Option.map_eq_some_iff] at e
    obtain ⟨i, hi, rfl⟩ := e
    obtain ⟨v1, rfl, p⟩ := pp.one
    unfold placeT at hi
    obtain ⟨rest, ho⟩ := List.head?_eq_some_iff.mp hi
    exact mt_sindex pins s σ H x _ v us Q I rx r ⟨S a, S b, i, rest, po.str, by rw [p.str], by rw [S_length]; exact ho, (n.nw (fun _ => nofun) fun _ => nofun).same S0 (.int _)⟩
  · cases e
end
end EV

set_option maxRecDepth 100000
set_option maxHeartbeats 4000000
namespace EV
open PySem L2 PyProof.Rows
/-- a def's promise by its meaning -/
def spF (Y : Lay) (f : Fn) (n : Nat) : Sp := fun vs H Q E => vs.length = n ∧ ∃ fg ι L ws, Sim Y fg ι L H ∧ RWs Y fg ι L H ws vs ∧
  Pq Y fg ι L H (f ws L) (fun w ι' L' H' => ∀ v, RW Y fg ι' L' H' w v → Q v H') E

/-- the places of the objects that are handed on -/
def pick (ι : List Addr) : List Nat → List Addr
  | [] => []
  | n :: ns => (ι[n]?).getD 0 :: pick ι ns
section
variable {Y : Lay} {fg : Addr → Prop} {ι : List Addr} {L : List Obj} {H : Hp}
theorem pick_get : ∀ {ns : List Nat} {k n : Nat} {a : Addr}, ns[k]? = some n → ι[n]? = some a → (pick ι ns)[k]? = some a
  | [], _, _, _, e, _ => by simp at e
  | m :: ms, 0, n, a, e, h => by
    simp at e; subst e
    simp [pick, h]
  | m :: ms, k + 1, n, a, e, h => by
    simp only [List.getElem?_cons_succ] at e
    simp only [pick, List.getElem?_cons_succ]
    exact pick_get e h
theorem pick_of : ∀ {ns : List Nat} {k : Nat} {a : Addr}, (∀ n ∈ ns, n < ι.length) → (pick ι ns)[k]? = some a → ∃ n, ns[k]? = some n ∧ ι[n]? = some a
  | [], _, _, _, e => by simp [pick] at e
  | m :: ms, 0, a, hl, e => by
    have hm := hl m List.mem_cons_self
    simp only [pick, List.getElem?_cons_zero, Option.some.injEq] at e
    rw [List.getElem?_eq_getElem hm] at e
    exact ⟨m, rfl, by rw [List.getElem?_eq_getElem hm, ← e]; rfl⟩
  | m :: ms, k + 1, a, hl, e => by
    simp only [pick, List.getElem?_cons_succ] at e
    obtain ⟨n, e1, e2⟩ := pick_of (fun n h => hl n (List.mem_cons_of_mem _ h)) e
    exact ⟨n, by simpa using e1, e2⟩
theorem pick_len : ∀ ns : List Nat, (pick ι ns).length = ns.length
  | [] => rfl
  | n :: ns => by simp [pick, pick_len ns]
theorem nodupB_ok : ∀ {ns : List Nat}, nodupB ns = true → ns.Nodup
  | [], _ => .nil
  | n :: ns, h => by
    simp only [nodupB, Bool.and_eq_true, Bool.not_eq_true', List.contains_eq_mem, decide_eq_false_iff_not] at h
    exact List.nodup_cons.mpr ⟨h.1, nodupB_ok h.2⟩
theorem takeL_ok : ∀ {ns : List Nat} {L0 : List Obj}, takeL L ns = some L0 → L0.length = ns.length ∧ ∀ (k n : Nat), ns[k]? = some n → ∃ o, L[n]? = some o ∧ L0[k]? = some o ∧ o.bare = true
  | [], _, e => by
    simp only [takeL, Option.some.injEq] at e
    subst e
    exact ⟨rfl, fun k n h => by simp at h⟩
  | m :: ms, L0, e => by
    simp only [takeL] at e
    cases hm : L[m]? with
    | none => rw [hm] at e; cases e
    | some o =>
      rw [hm] at e
      simp only at e
      by_cases hb : o.bare = true
      · rw [if_pos hb] at e
        simp only [Option.map_eq_some_iff] at e
        obtain ⟨L1, e, rfl⟩ := e
        obtain ⟨h1, h2⟩ := takeL_ok e
        refine ⟨by simp [h1], fun k n h => ?_⟩
        cases k with
        | zero =>
          simp at h; subst h
          exact ⟨o, hm, rfl, hb⟩
        | succ k => exact h2 k n (by simpa using h)
      · rw [if_neg hb] at e; cases e
theorem putL_ok : ∀ {ns : List Nat} {os L2 : List Obj}, putL L ns os = some L2 → ns.Nodup → (∀ n ∈ ns, n < L.length) → L2.length = L.length ∧ (∀ n, n ∉ ns → L2[n]? = L[n]?) ∧ ∀ (k n : Nat), ns[k]? = some n → ∃ o, os[k]? = some o ∧ L2[n]? = some o ∧ o.bare = true
  | [], _, _, e, _, _ => by
    simp only [putL, Option.some.injEq] at e
    subst e
    exact ⟨rfl, fun _ _ => rfl, fun k n h => by simp at h⟩
  | m :: ms, [], _, e, _, _ => by simp [putL] at e
  | m :: ms, o :: os, Lr, e, hd, hl => by
    simp only [putL] at e
    by_cases hb : o.bare = true
    · rw [if_pos hb] at e
      simp only [Option.map_eq_some_iff] at e
      obtain ⟨L1, e, rfl⟩ := e
      obtain ⟨hm, hd2⟩ := List.nodup_cons.mp hd
      obtain ⟨h1, h2, h3⟩ := putL_ok e hd2 fun n h => hl n (List.mem_cons_of_mem _ h)
      have hml : m < L1.length := by rw [h1]; exact hl m List.mem_cons_self
      refine ⟨by rw [List.length_set]; exact h1, fun n hn => ?_, fun k n h => ?_⟩
      · have hne : m ≠ n := fun z => hn (z ▸ List.mem_cons_self)
        rw [List.getElem?_set_ne hne]
        exact h2 n fun z => hn (List.mem_cons_of_mem _ z)
      · cases k with
        | zero =>
          simp at h; subst h
          exact ⟨o, rfl, List.getElem?_set_self hml, hb⟩
        | succ k =>
          have h' : ms[k]? = some n := by simpa using h
          obtain ⟨o', e1, e2, e3⟩ := h3 k n h'
          have hne : m ≠ n := fun z => hm (z ▸ List.mem_of_getElem? h')
          exact ⟨o', by simpa using e1, by rw [List.getElem?_set_ne hne]; exact e2, e3⟩
    · rw [if_neg hb] at e; cases e
/-- an object without objects of one's own in it, seen in another world -/
theorem RO.move {fg' : Addr → Prop} {ι' : List Addr} {L' : List Obj} {H' : Hp} {o : Obj} {a : Addr} (hb : o.bare = true) (g : Grow (av fg ι L) (av fg' ι' L') H H') (hs : ∀ u, H a = some u → H' a = some u) (h : RO Y fg ι L H o a) : RO Y fg' ι' L' H' o a := by
  cases o with
  | lst xs =>
    obtain ⟨vs, q, r⟩ := h
    exact ⟨vs, hs _ q, r.grow g⟩
  | dct xs =>
    obtain ⟨vs, q, r⟩ := h
    exact ⟨vs, hs _ q, r.grow g⟩
  | frz d => exact RD.grow g h
  | ins c fs =>
    obtain ⟨C, dx, gs, q1, q2, r⟩ := h
    refine ⟨C, dx, gs, q1, hs _ q2, ?_⟩
    have hb' : (insD fs).isSome = true := hb
    clear q2 hb
    induction r with
    | nil => exact .nil
    | cons rw_ rs ih =>
      rename_i k x v r gs
      cases x with
      | d x =>
        simp only [insD, Option.isSome_map] at hb'
        exact .cons (show RD Y _ H' x v from RD.grow g rw_) (ih hb')
      | loc n => simp [insD] at hb'
theorem handed_ok {fg' : Addr → Prop} {L' : List Obj} (g : Grow (av fg ι L) (av fg' (pick ι ns0) L') H H) (hl : ∀ n ∈ ns0, n < ι.length) : ∀ {ws : List W} {vs : List V} {k : Nat}, RWs Y fg ι L H ws vs → ns0.drop k = locsOf ws → RWs Y fg' (pick ι ns0) L' H (handed ws k) vs
  | _, _, _, .nil, _ => .nil
  | _, _, k, .cons (x := .d x) (xs := xs) r rs, e => .cons (show RD Y _ H x _ from RD.grow g r) (handed_ok g hl rs e)
  | _, _, k, .cons (x := .loc n) (xs := xs) r rs, e => by
    have e' : ns0.drop k = n :: locsOf xs := e
    have hk : ns0[k]? = some n := by
      have := congrArg List.head? e'
      rwa [List.head?_drop] at this
    have e2 : ns0.drop (k + 1) = locsOf xs := by
      have := congrArg List.tail e'
      rwa [List.tail_drop] at this
    obtain ⟨a, rfl, ha⟩ := r
    exact .cons ⟨a, rfl, pick_get hk ha⟩ (handed_ok g hl rs e2)
theorem RWs.locs (s : Sim Y fg ι L H) : ∀ {ws : List W} {vs : List V}, RWs Y fg ι L H ws vs → ∀ n ∈ locsOf ws, n < ι.length
  | _, _, .nil, _, h => by cases h
  | _, _, .cons (x := .d x) r rs, n, h => RWs.locs s rs n h
  | _, _, .cons (x := .loc m) r rs, n, h => by
    rcases List.mem_cons.mp h with e | h
    · subst e
      obtain ⟨a, _, ha⟩ := r
      exact (List.getElem?_eq_some_iff.mp ha).1
    · exact RWs.locs s rs n h
/-- THE CALL -/
theorem call_ok {m : Bool} {f : Fn} {ws : List W} {vs : List V} {n : Nat} {Q : VK} {w : Wish} (s : Sim Y fg ι L H) (r : RWs Y fg ι L H ws vs) (hn : vs.length = n)
    (p : Pq Y fg ι L H (callR m f ws L) (fun w ι' L' H' => ∀ v, RW Y fg ι' L' H' w v → Q v H') w) : spF Y f n vs H Q w := by
  refine ⟨hn, ?_⟩
  unfold callR at p
  cases ht : takeL L (locsOf ws) with
  | none => rw [ht] at p; exact p.elim
  | some L0 =>
  rw [ht] at p
  simp only at p
  by_cases hb : nodupB (locsOf ws) = true
  case neg => rw [if_neg hb] at p; exact p.elim
  rw [if_pos hb] at p
  have hd := nodupB_ok hb
  have hl := RWs.locs s r
  obtain ⟨tl, tk⟩ := takeL_ok ht
  generalize hns : locsOf ws = ns at *
  have hlL : ∀ n ∈ ns, n < L.length := fun n h => by rw [← s.len]; exact hl n h
  -- the callee's world
  have pi : ∀ {k : Nat} {a : Addr}, (pick ι ns)[k]? = some a → ∃ n o, ns[k]? = some n ∧ ι[n]? = some a ∧ L[n]? = some o ∧ L0[k]? = some o ∧ o.bare = true := fun {k a} h => by
    obtain ⟨n, e1, e2⟩ := pick_of hl h
    obtain ⟨o, e3, e4, e5⟩ := tk k n e1
    exact ⟨n, o, e1, e2, e3, e4, e5⟩
  have pm : ∀ {a : Addr}, a ∈ pick ι ns → a ∈ ι := fun {a} h => by
    obtain ⟨k, hk⟩ := List.getElem?_of_mem h
    obtain ⟨n, o, _, e, _⟩ := pi hk
    exact List.mem_of_getElem? e
  let fgc : Addr → Prop := fun a => av fg ι L a ∧ a ∉ pick ι ns
  have avc : ∀ a, av fgc (pick ι ns) L0 a → av fg ι L a := fun a h => by
    rcases h with h | ⟨k, o, h1, h2, h3⟩
    · exact h.1
    · obtain ⟨n, o', e1, e2, e3, e4, e5⟩ := pi h1
      rw [h2] at e4; cases e4
      exact .inr ⟨n, o, e2, e3, h3⟩
  have g : Grow (av fg ι L) (av fgc (pick ι ns) L0) H H := ⟨fun _ _ h _ => h, fun a h => .inl (avc a h)⟩
  have same : ∀ (i j : Nat) (a : Addr), ι[i]? = some a → ι[j]? = some a → i = j := fun i j a h1 h2 => by
    obtain ⟨l1, e1⟩ := List.getElem?_eq_some_iff.mp h1
    obtain ⟨l2, e2⟩ := List.getElem?_eq_some_iff.mp h2
    exact (List.getElem_inj s.nd).mp (e1.trans e2.symm)
  have sc : Sim Y fgc (pick ι ns) L0 H := by
    refine ⟨by rw [pick_len, tl], ?_, fun k a o h1 h2 => ?_, fun a h => s.av_dom h.1, fun a h z => z.2 h, fun a h => s.dom a (pm h)⟩
    · refine List.pairwise_iff_getElem.mpr fun i j hi hj hij e3 => ?_
      obtain ⟨n1, o1, a1, b1, _⟩ := pi (List.getElem?_eq_getElem hi)
      obtain ⟨n2, o2, a2, b2, _⟩ := pi (List.getElem?_eq_getElem hj)
      rw [e3] at b1
      have hnn := same _ _ _ b1 b2
      subst hnn
      obtain ⟨l1, q1⟩ := List.getElem?_eq_some_iff.mp a1
      obtain ⟨l2, q2⟩ := List.getElem?_eq_some_iff.mp a2
      have hij2 := (List.getElem_inj hd).mp (q1.trans q2.symm)
      omega
    · obtain ⟨n, o', e1, e2, e3, e4, e5⟩ := pi h1
      rw [h2] at e4; cases e4
      exact RO.move e5 g (fun _ h => h) (s.obj n a o e2 e3)
  refine ⟨fgc, pick ι ns, L0, handed ws 0, sc, handed_ok g hl r (by rw [List.drop_zero]; exact hns.symm), ?_⟩
  -- back in the caller's world
  have back : ∀ {L1 Lb : List Obj} {ι1 : List Addr} {H1 : Hp}, putL L ns L1 = some Lb → Ext fgc (pick ι ns) L0 H ι1 L1 H1 → Sim Y fgc ι1 L1 H1 →
      Ext fg ι L H ι Lb H1 ∧ Sim Y fg ι Lb H1 ∧ (∀ a, av fg ι Lb a → av fgc ι1 L1 a) ∧ (∀ a, av fg ι Lb a → H a ≠ none) := by
    intro L1 Lb ι1 H1 hp e1 s1
    obtain ⟨b1, b2, b3⟩ := putL_ok hp hd hlL
    obtain ⟨t, ht1⟩ := e1.pre
    have i1 : ∀ {k : Nat} {a : Addr}, (pick ι ns)[k]? = some a → ι1[k]? = some a := fun {k a} h => by
      rw [ht1, List.getElem?_append_left (List.getElem?_eq_some_iff.mp h).1]; exact h
    have inn : ∀ {n : Nat} {a : Addr}, ι[n]? = some a → n ∈ ns → ∃ k, ns[k]? = some n ∧ (pick ι ns)[k]? = some a := fun {n a} h hm => by
      obtain ⟨k, hk⟩ := List.getElem?_of_mem hm
      exact ⟨k, hk, pick_get hk h⟩
    have out : ∀ {n : Nat} {a : Addr}, ι[n]? = some a → n ∉ ns → a ∉ pick ι ns := fun {n a} h hm z => by
      obtain ⟨k, hk⟩ := List.getElem?_of_mem z
      obtain ⟨n', o, q1, q2, _⟩ := pi hk
      have := same _ _ _ h q2
      subst this
      exact hm (List.mem_of_getElem? q1)
    have sub : ∀ a, av fg ι Lb a → av fgc ι1 L1 a := by
      rintro a (h | ⟨n, o, h1, h2, h3⟩)
      · exact .inl ⟨.inl h, fun z => s.fgi a (pm z) h⟩
      · by_cases hm : n ∈ ns
        · obtain ⟨k, q1, q2⟩ := inn h1 hm
          obtain ⟨o', q3, q4, _⟩ := b3 k n q1
          rw [h2] at q4; cases q4
          exact .inr ⟨k, o, i1 q2, q3, h3⟩
        · rw [b2 n hm] at h2
          exact .inl ⟨.inr ⟨n, o, h1, h2, h3⟩, out h1 hm⟩
    have dm : ∀ a, av fg ι Lb a → H a ≠ none := by
      rintro a (h | ⟨n, o, h1, h2, h3⟩)
      · exact s.fgn a h
      · exact s.dom a (List.mem_of_getElem? h1)
    have ee : Ext fg ι L H ι Lb H1 := by
      refine ⟨⟨[], by simp⟩, fun a o h n => e1.keep a o h fun z => n (avc a z), fun a h => ?_, fun a h => .inl h, fun a o h n => e1.frm a o h fun z => n (pm z)⟩
      rcases e1.new a (sub a h) with z | z
      · exact .inl (avc a z)
      · exact .inr z
    have gg : Grow (av fgc ι1 L1) (av fg ι Lb) H1 H1 := ⟨fun _ _ h _ => h, fun a h => .inl (sub a h)⟩
    refine ⟨ee, ⟨by rw [b1]; exact s.len, s.nd, fun n a o h1 h2 => ?_, fun a h => ?_, s.fgi, fun a h => ?_⟩, sub, dm⟩
    · by_cases hm : n ∈ ns
      · obtain ⟨k, q1, q2⟩ := inn h1 hm
        obtain ⟨o', q3, q4, q5⟩ := b3 k n q1
        rw [h2] at q4; cases q4
        exact RO.move q5 gg (fun _ h => h) (s1.obj k a o (i1 q2) q3)
      · rw [b2 n hm] at h2
        have ro := s.obj n a o h1 h2
        have hkeep : ∀ u, H a = some u → H1 a = some u := fun u h => e1.frm a u h (out h1 hm)
        cases o with
        | lst xs =>
          obtain ⟨vs, q, r⟩ := ro
          exact ⟨vs, hkeep _ q, r.grow ee.grow⟩
        | dct xs =>
          obtain ⟨vs, q, r⟩ := ro
          exact ⟨vs, hkeep _ q, r.grow ee.grow⟩
        | ins c xs =>
          obtain ⟨C, dx, gs, q1, q2, r⟩ := ro
          exact ⟨C, dx, gs, q1, hkeep _ q2, r.ext ee⟩
        | frz d => exact RD.grow ee.grow ro
    · have h' : fgc a := ⟨.inl h, fun z => s.fgi a (pm z) h⟩
      exact s1.fgn a h'
    · by_cases hm : a ∈ pick ι ns
      · exact s1.dom a (by rw [ht1]; exact List.mem_append_left _ hm)
      · cases q : H a with
        | none => exact absurd q (s.dom a h)
        | some u => rw [e1.frm a u q hm]; exact fun z => by cases z
  have back2 : ∀ {L1 Lb : List Obj} {ι1 : List Addr} {H1 : Hp} {k : Nat} {a : Addr} {o : Obj}, putL L ns L1 = some Lb → Ext fgc (pick ι ns) L0 H ι1 L1 H1 → Sim Y fgc ι1 L1 H1 → ι1[k]? = some a → L1[k]? = some o → o.bare = true → live o = true → H a = none →
      Ext fg ι L H (ι ++ [a]) (Lb ++ [o]) H1 ∧ Sim Y fg (ι ++ [a]) (Lb ++ [o]) H1 ∧ RW Y fg (ι ++ [a]) (Lb ++ [o]) H1 (.loc Lb.length) (.ref a) := by
    intro L1 Lb ι1 H1 kk aa oo hp e1 s1 haa hoo hob hol hnew
    obtain ⟨ee0, ss0, sub0, dm0⟩ := back hp e1 s1
    obtain ⟨b1, b2, b3⟩ := putL_ok hp hd hlL
    obtain ⟨t, ht1⟩ := e1.pre
    have hlen : ι.length = Lb.length := by rw [b1]; exact s.len
    have i1 : ∀ {k : Nat} {a : Addr}, (pick ι ns)[k]? = some a → ι1[k]? = some a := fun {k a} h => by
      rw [ht1, List.getElem?_append_left (List.getElem?_eq_some_iff.mp h).1]; exact h
    have inn : ∀ {n : Nat} {a : Addr}, ι[n]? = some a → n ∈ ns → ∃ k, ns[k]? = some n ∧ (pick ι ns)[k]? = some a := fun {n a} h hm => by
      obtain ⟨k, hk⟩ := List.getElem?_of_mem hm
      exact ⟨k, hk, pick_get hk h⟩
    have out : ∀ {n : Nat} {a : Addr}, ι[n]? = some a → n ∉ ns → a ∉ pick ι ns := fun {n a} h hm z => by
      obtain ⟨k, hk⟩ := List.getElem?_of_mem z
      obtain ⟨n', o, q1, q2, _⟩ := pi hk
      have := same _ _ _ h q2
      subst this
      exact hm (List.mem_of_getElem? q1)
    have look : ∀ (n : Nat) (b : Addr) (x : Obj), (ι ++ [aa])[n]? = some b → (Lb ++ [oo])[n]? = some x → (ι[n]? = some b ∧ Lb[n]? = some x) ∨ (b = aa ∧ x = oo) := by
      intro n b x h1 h2
      by_cases hn : n < ι.length
      · rw [List.getElem?_append_left hn] at h1
        rw [List.getElem?_append_left (by omega)] at h2
        exact .inl ⟨h1, h2⟩
      · have hn2 : n = ι.length := by
          have := (List.getElem?_eq_some_iff.mp h1).1
          simp at this
          omega
        subst hn2
        rw [List.get_app] at h1
        rw [hlen, List.get_app] at h2
        cases h1; cases h2
        exact .inr ⟨rfl, rfl⟩
    have sub : ∀ b, av fg (ι ++ [aa]) (Lb ++ [oo]) b → av fgc ι1 L1 b := by
      rintro b (h | ⟨n, x, h1, h2, h3⟩)
      · exact sub0 b (.inl h)
      · rcases look n b x h1 h2 with ⟨q1, q2⟩ | ⟨rfl, rfl⟩
        · exact sub0 b (.inr ⟨n, x, q1, q2, h3⟩)
        · exact .inr ⟨kk, x, haa, hoo, hol⟩
    have nι : aa ∉ ι := fun z => s.dom aa z hnew
    have ee : Ext fg ι L H (ι ++ [aa]) (Lb ++ [oo]) H1 := by
      refine ⟨⟨[aa], rfl⟩, ee0.keep, fun b h => ?_, fun b h => ?_, ee0.frm⟩
      · rcases e1.new b (sub b h) with z | z
        · exact .inl (avc b z)
        · exact .inr z
      · rcases List.mem_append.mp h with z | z
        · exact .inl z
        · rw [List.mem_singleton.mp z]; exact .inr hnew
    have gg : Grow (av fgc ι1 L1) (av fg (ι ++ [aa]) (Lb ++ [oo])) H1 H1 := ⟨fun _ _ h _ => h, fun a h => .inl (sub a h)⟩
    refine ⟨ee, ⟨by simp [hlen], List.nodup_append.mpr ⟨s.nd, by simp, fun x hx y hy => ?_⟩, fun n b x h1 h2 => ?_, ss0.fgn, fun b h => ?_, fun b h => ?_⟩, aa, rfl, by rw [← hlen, List.get_app]⟩
    · rw [List.mem_singleton.mp hy]
      exact fun q => nι (q ▸ hx)
    · rcases look n b x h1 h2 with ⟨q1, q2⟩ | ⟨rfl, rfl⟩
      · by_cases hm : n ∈ ns
        · obtain ⟨k, p1, p2⟩ := inn q1 hm
          obtain ⟨o', p3, p4, p5⟩ := b3 k n p1
          rw [q2] at p4; cases p4
          exact RO.move p5 gg (fun _ h => h) (s1.obj k b x (i1 p2) p3)
        · rw [b2 n hm] at q2
          have ro := s.obj n b x q1 q2
          have hkeep : ∀ u, H b = some u → H1 b = some u := fun u h => e1.frm b u h (out q1 hm)
          cases x with
          | lst xs =>
            obtain ⟨vs, q, r⟩ := ro
            exact ⟨vs, hkeep _ q, r.grow ee.grow⟩
          | dct xs =>
            obtain ⟨vs, q, r⟩ := ro
            exact ⟨vs, hkeep _ q, r.grow ee.grow⟩
          | ins c xs =>
            obtain ⟨C, dx, gs, q1, q2, r⟩ := ro
            exact ⟨C, dx, gs, q1, hkeep _ q2, r.ext ee⟩
          | frz d => exact RD.grow ee.grow ro
      · exact RO.move hob gg (fun _ h => h) (s1.obj kk b x haa hoo)
    · rcases List.mem_append.mp h with z | z
      · exact s.fgi b z
      · rw [List.mem_singleton.mp z]; exact fun q => s.fgn aa q hnew
    · rcases List.mem_append.mp h with z | z
      · exact ss0.dom b z
      · rw [List.mem_singleton.mp z]; exact s1.dom aa (List.mem_of_getElem? haa)
  cases hf : f (handed ws 0) L0 with
  | bad => rw [hf] at p; exact p.elim
  | err x L1 =>
    rw [hf] at p
    simp only at p
    cases hp : putL L ns L1 with
    | none => rw [hp] at p; exact p.elim
    | some Lb =>
      rw [hp] at p
      intro c d ι1 H1 e1 s1 rx
      obtain ⟨ee, ss, sub, dm⟩ := back hp e1 s1
      refine p c d ι H1 ee ss ?_
      obtain ⟨C, k1, k2, k3⟩ := rx
      refine ⟨C, k1, k2, ?_⟩
      cases hx : x.arg with
      | none => trivial
      | some a =>
        rw [hx] at k3
        obtain ⟨dx, fl, v, m1, m2, m3, m4⟩ := k3
        exact ⟨dx, fl, v, m1, m2, m3, RD.grow ⟨fun _ _ h _ => h, fun a h => .inl (sub a h)⟩ m4⟩
  | ok wr L1 =>
    rw [hf] at p
    simp only at p
    cases hp : putL L ns L1 with
    | none => rw [hp] at p; exact p.elim
    | some Lb =>
    rw [hp] at p
    simp only at p
    cases hbk0 : backR m ns L1 Lb wr with
    | none => rw [hbk0] at p; exact p.elim
    | some y0 =>
    rw [hbk0] at p
    intro ι1 H1 e1 s1 v rv
    obtain ⟨ee, ss, sub, dm⟩ := back hp e1 s1
    have gg : Grow (av fgc ι1 L1) (av fg ι Lb) H1 H1 := ⟨fun _ _ h _ => h, fun a h => .inl (sub a h)⟩
    have newA : ∀ {k : Nat} {a : Addr}, ι1[k]? = some a → ns.length ≤ k → H a = none := by
      intro k a ha hkl
      obtain ⟨t, ht1⟩ := e1.pre
      rcases e1.newi a (List.mem_of_getElem? ha) with z | z
      · exfalso
        obtain ⟨j, hj⟩ := List.getElem?_of_mem z
        have hjl := (List.getElem?_eq_some_iff.mp hj).1
        have hj1 : ι1[j]? = some a := by rw [ht1, List.getElem?_append_left hjl]; exact hj
        obtain ⟨l1, q1⟩ := List.getElem?_eq_some_iff.mp hj1
        obtain ⟨l2, q2⟩ := List.getElem?_eq_some_iff.mp ha
        have := (List.getElem_inj s1.nd).mp (q1.trans q2.symm)
        rw [pick_len] at hjl
        omega
      · exact z
    cases m with
    | true =>
      simp only [backR, if_true] at hbk0
      cases wr with
      | d x =>
        simp only [Option.some.injEq] at hbk0
        subst hbk0
        exact p ι H1 ee ss v (RD.grow gg rv)
      | loc k =>
        obtain ⟨a, rfl, ha⟩ := rv
        obtain ⟨t, ht1⟩ := e1.pre
        simp only at hbk0
        cases hk : ns[k]? with
        | some n =>
          rw [hk] at hbk0
          simp only [Option.some.injEq] at hbk0
          subst hbk0
          have hkl : k < (pick ι ns).length := by rw [pick_len]; exact (List.getElem?_eq_some_iff.mp hk).1
          rw [ht1, List.getElem?_append_left hkl] at ha
          obtain ⟨n', o, q1, q2, _⟩ := pi ha
          rw [hk] at q1; cases q1
          exact p ι H1 ee ss _ ⟨a, rfl, q2⟩
        | none =>
          rw [hk] at hbk0
          simp only at hbk0
          cases ho : L1[k]? with
          | none => rw [ho] at hbk0; cases hbk0
          | some o =>
          rw [ho] at hbk0
          simp only at hbk0
          by_cases hbl : (o.bare && live o) = true
          case neg => rw [if_neg hbl] at hbk0; cases hbk0
          rw [if_pos hbl] at hbk0
          simp only [Option.some.injEq] at hbk0
          subst hbk0
          rw [Bool.and_eq_true] at hbl
          have hkl : ns.length ≤ k := List.getElem?_eq_none_iff.mp hk
          have hnew := newA ha hkl
          obtain ⟨x2, s2, r2⟩ := back2 hp e1 s1 ha ho hbl.1 hbl.2 hnew
          exact p _ H1 x2 s2 _ r2
    | false =>
    simp only [backR, Bool.false_eq_true, if_false, Option.map_eq_some_iff] at hbk0
    obtain ⟨w2, hbk, rfl⟩ := hbk0
    simp only at p
    refine p ι H1 ee ss v ?_
    cases wr with
    | d x =>
      simp only [backW, Option.some.injEq] at hbk
      subst hbk
      exact RD.grow gg rv
    | loc k =>
      obtain ⟨a, rfl, ha⟩ := rv
      obtain ⟨t, ht1⟩ := e1.pre
      simp only [backW] at hbk
      cases hk : ns[k]? with
      | some n =>
        rw [hk] at hbk
        simp only [Option.some.injEq] at hbk
        subst hbk
        have hkl : k < (pick ι ns).length := by rw [pick_len]; exact (List.getElem?_eq_some_iff.mp hk).1
        rw [ht1, List.getElem?_append_left hkl] at ha
        obtain ⟨n', o, q1, q2, _⟩ := pi ha
        rw [hk] at q1; cases q1
        exact ⟨a, rfl, q2⟩
      | none =>
        rw [hk] at hbk
        simp only [Option.map_eq_some_iff] at hbk
        obtain ⟨d, hpk, rfl⟩ := hbk
        have hkl : ns.length ≤ k := List.getElem?_eq_none_iff.mp hk
        -- the object is the callee's own: new
        have hnew : H a = none := newA ha hkl
        have hna : ¬ av fg ι Lb a := fun z => dm a z hnew
        simp only [peek, Option.bind_eq_some_iff] at hpk
        obtain ⟨o, ho, hpk⟩ := hpk
        have ro := s1.obj k a o ha ho
        cases o with
        | lst xs =>
          simp only [Obj.data, Option.some.injEq] at hpk
          subst hpk
          obtain ⟨vs, q, r⟩ := ro
          exact .lst ⟨q, hna⟩ (r.grow gg)
        | dct xs =>
          simp only [Obj.data, Option.some.injEq] at hpk
          subst hpk
          obtain ⟨vs, q, r⟩ := ro
          exact .dct q hna (r.grow gg)
        | ins c fs =>
          simp only [Obj.data, Option.map_eq_some_iff] at hpk
          obtain ⟨ds, hi, rfl⟩ := hpk
          obtain ⟨C, dx, gs, q1, q2, r⟩ := ro
          exact .ins q1 q2 hna ((r.data hi).grow gg)
        | frz x =>
          simp only [Obj.data, Option.some.injEq] at hpk
          subst hpk
          exact RD.grow gg ro
end
end EV

set_option maxRecDepth 100000
set_option maxHeartbeats 4000000
namespace EV
open PySem L2 PyProof.Rows
/-- a def's promise where no guard stands -/
structure FnG (prog : Program) (w : World) (K : PySem.W.Frag) (mg : Str → Option Value) (base : Heap) (C : CXT) (k : Nat) (f : Addr) (fd : FuncData) (ps : List Str) (sp : Sp) : Prop where
  len : ∀ vs H Q E, sp vs H Q E → vs.length = ps.length
  run : ∀ (A : Around) (up : List PySem.Env) (s : Shared) (H : Hp) (args : Args) (us : List Value) (vs : List V) (Q : VK) (E : XK), Room k A → A.guards = some [] →
    Env0 prog w K mg base A up s H → BindsTo s fd args (ps.zip us) → Vals vs us → sp vs H Q E → codeAny (model prog w) A (.call (.ref f) args) (CR C up prog w H s Q E) s
section
variable {prog : Program} {w : World} {K : PySem.W.Frag} {mg : Str → Option Value} {base : Heap} {C : CXT}
theorem FnG.mono {j k : Nat} {f : Addr} {fd : FuncData} {ps : List Str} {sp : Sp} (F : FnG prog w K mg base C j f fd ps sp) (h : j ≤ k) : FnG prog w K mg base C k f fd ps sp :=
  ⟨F.len, fun A up s H args us vs Q E hr => F.run A up s H args us vs Q E (hr.mono h)⟩
theorem fnG_of {k : Nat} {x qual : Str} {args : Arguments} {body : List Stmt} {scope : Scope} {dvs : List V} {kws : List (Str × V)} {f : Addr} {fd : FuncData} {N ps : List Str} {sp : Sp} (F : FunD K x qual args body scope dvs kws f fd) (S : FnScope N ps scope)
    (len : ∀ vs H Q E, sp vs H Q E → vs.length = ps.length)
    (hb : ∀ (cdv : Value) (A : Around) (up : List PySem.Env) (s : Shared) (H : Hp) (vs : List V) (Q : VK) (E : XK), Room k (A.deeper (envOfC qual scope s.heap.objs.size f cdv)) → (A.deeper (envOfC qual scope s.heap.objs.size f cdv)).guards = some [] → sp vs H Q E →
      ∃ t, PSs (cxOf C prog w K mg base N qual scope f cdv A up s H E) body t ∧ t { nx := fun _ H' => Q .non H', rt := Q } (L2.start N vs) H) : FnG prog w K mg base C (k + 1) f fd ps sp := by
  obtain ⟨oc, od, dV, kV, doc, pm, an, cdv, ct, osl, rfl, lk, hcd, _, _⟩ := F.ex
  refine ⟨len, fun A up s H as us vs Q E room gu e0 bd rel hsp => ?_⟩
  have cnt := len _ _ _ _ hsp
  have kin : K.In s.heap := e0.mod.kin.keeps fun b o z => (e0.bs b o z).1
  have nol : s.heap.NoLimit := e0.mod.nolimit.keeps fun b o z => (e0.bs b o z).1
  have kinds : ∀ y ∈ ps.zip us, scope.names.lookup y.1 = some .local ∨ (scope.names.lookup y.1 = some .cell ∧
      ((cellsFrom (s.heap.objs.size + 1) scope.names []).lookup y.1).isSome = true) := by
    rintro ⟨n, v⟩ hy
    refine (S.par n (List.of_mem_zip hy).1).imp id fun q => ?_
    exact ⟨q, PySem.W.cellsFrom_some _ _ _ (.inl q)⟩
  refine codeAny_call_function room.depth (kin _ _ lk) rfl S.co S.gen rfl (PySem.W.codeRec_of kin hcd) (bd _ _ _ _ ?_)
  refine wpAny_newFunctionEnv_cells S.kind kinds fun env hev s1 z => ?_
  subst hev
  refine ⟨nol.keeps z.toInCall.keep, codeAny_func ?_⟩
  obtain ⟨t, ht, hq⟩ := hb cdv A up s H vs Q E (room.deeper _) gu hsp
  have I : L2.Inv (cxOf C prog w K mg base N qual scope f cdv A up s H E) [] (L2.start N vs) H s1 := inv_start S room.hd e0 cnt rel z
  have last : ∀ {σ' : L2.St} {H' : Hp} {v : V} {u : Value} {s' : Shared}, L2.Inv (cxOf C prog w K mg base N qual scope f cdv A up s H E) [] σ' H' s' → RelV v u → Q v H' → CE up prog w H s Q u s' :=
    fun {σ' H' v u s'} J rv q => ⟨v, H', J.os, J.bare, J.base, J.hok, rv, q⟩
  refine wpAny_mono (ht.run [] s1 (L2.start N vs) H _ I hq) (fun fl s' ends => ?_) fun _ _ z => z
  cases fl with
  | next => obtain ⟨_, _, J, q⟩ := ends; exact last (v := .non) (u := .none) J rfl q
  | ret u => obtain ⟨_, _, _, J, rv, q⟩ := ends; exact last J rv q
  | brk => obtain ⟨_, _, _, q⟩ := ends; exact q.elim
  | cont => obtain ⟨_, _, _, q⟩ := ends; exact q.elim
end
section
variable {X : Cx} {C : CXT} {k : Nat} {f : Addr} {fd : FuncData} {ps : List Str} {sp : Sp} {E : L2.St → XK} {x : Str} {p pos : Pos} {e : Expr} {es : List Expr} {t : TA}
theorem runG {pins : List (Addr × PySem.Obj)} {σ : L2.St} {H : Hp} {s : Shared} {Q : VK} {us : List Value} {vs : List V} (F : FnG X.prog X.w X.K X.mg X.base C k f fd ps sp) (hr : Room k X.A) (hg : X.A.guards = some []) (hb : L2.Binds X.K fd ps [])
    (hx : PassesAt C X σ (E σ)) (I : L2.Inv X pins σ H s) (r : Vals vs us) (h : sp vs H Q (E σ)) : wpAny (model X.prog X.w) X.A (call (.ref f) us) (EP X pins σ Q) X.xe s := by
  have cnt : us.length = ps.length := r.length.symm.trans (F.len _ _ _ _ h)
  have b := hb s us I.kIn (by simpa using cnt)
  rw [List.append_nil] at b
  refine wpAny_call (codeAny_mono (F.run X.A X.stack s H ⟨us, []⟩ us vs Q (E σ) hr hg I.env0 b r h) fun res s' z => ?_)
  cases res with
  | error er => exact hx pins H s er s' I z
  | ok fl =>
    cases fl with
    | ret u => exact I.after z
    | _ => exact z.elim
theorem pe_callG (F : FnG X.prog X.w X.K X.mg X.base C k f fd ps sp) (hr : Room k X.A) (hgu : X.A.guards = some []) (hg : Gl X x) (hm : X.mg x = some (.ref f)) (hk : PySem.W.keepIn X.K (.ref f) = true) (hb : L2.Binds X.K fd ps []) (hx : ∀ σ, PassesAt C X σ (E σ))
    (ha : PA X (e :: es) t) (hdb : (x == ("__debug__" : Str)) = false) (he : starEach (e :: es) X.env = (false, eval e X.env) :: starEach es X.env) (hpl : (backTo pos (starEach es X.env)).any (·.1) = false) : PE X (.Call (.Name x p) (e :: es) [] pos) (fun σ H Q => t σ H fun vs H1 => sp vs H1 Q (E σ)) :=
  ⟨fun pins s σ H Q I h => wpAny_Call_Name_kw (ld_glob I hg hm (PySem.W.callWith_K (h₀ := X.base) I.ok.mod.kin hk (thn (ha.run pos pins s σ H _ I h) fun us s1 ⟨vs, H1, I1, r, q⟩ => ⟨I1.kIn, runG F hr hgu hb (hx σ) I1 r q⟩) he hpl) hdb)⟩
theorem pe_callG0 (F : FnG X.prog X.w X.K X.mg X.base C k f fd ps sp) (hr : Room k X.A) (hgu : X.A.guards = some []) (hg : Gl X x) (hm : X.mg x = some (.ref f)) (hk : PySem.W.keepIn X.K (.ref f) = true) (hb : L2.Binds X.K fd ps [])
    (hx : ∀ σ, PassesAt C X σ (E σ)) (hdb : (x == ("__debug__" : Str)) = false) : PE X (.Call (.Name x p) [] [] pos) (fun σ H Q => sp [] H Q (E σ)) := by
  refine ⟨fun pins s σ H Q I h => ?_⟩
  refine wpAny_Call_Name_kw (ld_glob I hg hm ?_ hdb)
  exact PySem.W.callWith_K0 I.kIn hk (runG (us := []) F hr hgu hb (hx σ) I .nil h)
end
end EV

set_option maxRecDepth 100000
set_option maxHeartbeats 4000000
namespace EV
open PySem L2 PyProof.Rows
section
variable {P : Program} {w : World} {K : PySem.W.Frag} {mg mb : Str → Option Value} {C : CXT} {k : Nat} {fa a : Addr} {fd : FuncData} {x : Str} {sp : Sp} {s : Shared} {vs : List Value} {ns : List Int}
/-- what a law's run is to come to -/
def LawEnd (s : Shared) (r : Result) (s' : Shared) : Prop := r = .ok (.ret (.bool true)) ∧ OldK s.heap s'.heap ∧ s'.os = s.os ∧ AllBare s'.gens
theorem law_from (H : Hp) (kin : K.In s.heap) (hns : s.heap.Ns mainGlobals mg) (hb : s.heap.Ns builtinsNs mb) (hbb : ∀ x : Str, x ≠ "__name__" → mb x = bootBuiltins x) (nol : s.heap.NoLimit) (hg : s.gens = #[])
    (ha : s.heap.get? a = some { cls := .type "list", data := .seq vs.toArray }) (hr : Room k callerA) (F : ∀ base : Heap, K.In base → base.Ns mainGlobals mg → FnG P w K mg base C k fa fd [x] sp)
    (hbind : ∀ (s : Shared) (u : Value), BindsTo s fd ⟨[u], []⟩ [(x, u)]) (only : Only H) (hsp : sp [.ref a] H (fun v _ => v = .bl true) fun _ _ _ => False) (hC : ∀ e s', ¬ C [] H s (fun _ _ _ => False) e s')
    (ok : HOk P w H s.heap) (one : ∀ b, H b ≠ none → b = a) (out : H a ≠ none → K.lookup a = none) : codeAny (model P w) callerA (.call (.ref fa) ⟨[.ref a], []⟩) (LawEnd s) s := by
  have isA : ∀ {b : Addr} {u : HO}, H b = some u → b = a := fun {b u} q => one b (by rw [q]; nofun)
  have hid : ∀ {b : Addr} {o : PySem.Obj}, s.heap.get? b = some o → H b = none → (hidT s.heap H).get? b = some o := fun q n => hidT_get q n
  have noDict : ∀ {b : Addr} {o : PySem.Obj} {es : Array DictEntry} {ep : Nat}, s.heap.get? b = some o → o.data = .dict es ep → H b = none := by
    intro b o es ep q dd
    cases z : H b with
    | none => rfl
    | some u =>
      obtain rfl := isA z
      rw [ha] at q
      cases q
      have dd' : Data.seq vs.toArray _ = Data.dict es ep := dd
      cases dd'
  have toNs : ∀ {b : Addr} {m : Str → Option Value}, s.heap.Ns b m → (hidT s.heap H).Ns b m := fun {b m} ⟨o, es, ep, q, dd, r⟩ => ⟨o, es, ep, hid q (noDict q dd), dd, r⟩
  have kinH : K.In (hidT s.heap H) := by
    intro b o q
    refine hid (kin b o q) ?_
    cases z : H b with
    | none => rfl
    | some u =>
      obtain rfl := isA z
      rw [out (by rw [z]; nofun)] at q
      cases q
  have md : Mod K mg (hidT s.heap H) := ⟨kinH, toNs hns, ⟨mb, toNs hb, hbb⟩, let ⟨m, h1, h2⟩ := nol; ⟨m, toNs h1, h2⟩⟩
  have e0 : Env0 P w K mg (hidT s.heap H) callerA [] s H := ⟨rfl, md, fun b o q => of_hidT q, Nat.le_of_eq (hidT_size _ _), trivial, fun b z => by simp [frs] at z, ok, .of_eq hg⟩
  refine codeAny_mono ((F _ kinH (toNs hns)).run callerA [] s H ⟨[.ref a], []⟩ [.ref a] [.ref a] _ _ hr rfl e0 (hbind s (.ref a)) (.cons rfl .nil) hsp) fun res s' z => ?_
  cases res with
  | error er => exact (hC er s' z).elim
  | ok fl =>
    cases fl with
    | ret u =>
      obtain ⟨v, H', os, bare, un, ok', rv, q⟩ := z
      obtain rfl : v = .bl true := q
      obtain rfl : u = Value.bool true := rv
      refine ⟨rfl, OldK.of_keep fun b o q => ?_, os, bare⟩
      cases z : H b with
      | none => exact un.keep b o q z (by simp [frs]) (by simp)
      | some hu =>
        rcases only b with n | ⟨ob, xs, n⟩
        · rw [z] at n; cases n
        · obtain ⟨g1, _⟩ := ok b _ n
          obtain ⟨g2, _⟩ := ok' b _ (un.frzs b ob _ n)
          rw [q] at g1
          cases g1
          exact g2
    | _ => exact z.elim
theorem law_callG (kin : K.In s.heap) (hns : s.heap.Ns mainGlobals mg) (hb : s.heap.Ns builtinsNs mb) (hbb : ∀ x : Str, x ≠ "__name__" → mb x = bootBuiltins x) (nol : s.heap.NoLimit) (hg : s.gens = #[])
    (ha : s.heap.get? a = some { cls := .type "list", data := .seq vs.toArray }) (hi : IntsAre vs ns) (hl : ns.length ≤ sizeLine) (hr : Room k callerA) (F : ∀ base : Heap, K.In base → base.Ns mainGlobals mg → FnG P w K mg base C k fa fd [x] sp)
    (hbind : ∀ (s : Shared) (u : Value), BindsTo s fd ⟨[u], []⟩ [(x, u)]) (hsp : ∀ H : Hp, SqL K H a (ns.map V.int) → sp [.ref a] H (fun v _ => v = .bl true) fun _ _ _ => False) (hC : ∀ H e s', ¬ C [] H s (fun _ _ _ => False) e s') :
    codeAny (model P w) callerA (.call (.ref fa) ⟨[.ref a], []⟩) (LawEnd s) s := by
  have rv := vals_ints hi
  cases q : K.lookup a with
  | some o =>
    have o' := kin a o q
    rw [ha] at o'
    cases o'
    exact law_from (fun _ => none) kin hns hb hbb nol hg ha hr F hbind (fun _ => .inl rfl) (hsp _ (.inr ⟨_, vs.toArray, _, q, rfl, rfl, rfl, by rw [List.size_toArray, hi.length]; exact hl, by simpa using rv⟩)) (hC _)
      (fun b u z => nomatch (show (none : Option HO) = some u from z)) (fun b z => absurd rfl z) fun z => absurd rfl z
  | none =>
    let T : HO := .frz { cls := .type "list", data := .seq vs.toArray } (.lst (ns.map V.int))
    have at_ : ∀ {b : Addr} {u : HO}, (if b = a then some T else none) = some u → b = a ∧ u = T := by
      intro b u z
      by_cases hb : b = a
      · rw [if_pos hb] at z; cases z; exact ⟨hb, rfl⟩
      · rw [if_neg hb] at z; cases z
    refine law_from (fun b => if b = a then some T else none) kin hns hb hbb nol hg ha hr F hbind (fun b => ?_) (hsp _ (.inl (.inr ⟨_, if_pos rfl⟩))) (hC _) (fun b u z => ?_) (fun b z => ?_) fun _ => q
    · by_cases hb : b = a
      · exact .inr ⟨_, _, if_pos hb⟩
      · exact .inl (if_neg hb)
    · obtain ⟨rfl, rfl⟩ := at_ z
      exact ⟨ha, by rw [List.length_map]; exact hl, vs, _, rv, ha⟩
    · cases z2 : (if b = a then some T else none) with
      | none => exact absurd z2 z
      | some u => exact (at_ z2).1
end
end EV

set_option maxRecDepth 100000
set_option maxHeartbeats 4000000
namespace EV
open PySem L2 PyProof.Rows
section
variable {Y : Lay} {X : Cx} {pos : Pos} {a b c e : Expr} {ma mb mc : Env → List Obj → R W}
theorem je_var {i : Nat} {x : Str} (P : Pr) (hN : X.N[i]? = some x) (hv : Vis X.env.scope x) (hd : (x == ("__debug__" : Str)) = false) (hcd : (x == ("__classdict__" : Str)) = false) : JE Y X (.Name x pos) (eE P (.var i)) := by
  intro w tk
  refine PE.imp (pe_var hN hv hd hcd) fun σ H Q h => ?_
  obtain ⟨fg, ι, L, ρ, s, r, p⟩ := h
  simp only [eE] at p
  cases q : ρ[i]? with
  | none => rw [q] at p; exact p.elim
  | some o =>
    rw [q] at p
    cases o with
    | none => exact p.elim
    | some x =>
      obtain ⟨v, e1, e2⟩ := r.get i x q
      exact ⟨v, e1, p.ok s v e2⟩
/-- a value that is data wherever the heap is -/
def Still (Y : Lay) (d : D) (v : V) : Prop := ∀ av H, RD Y av H d v
theorem je_con {d : D} {v : V} (P : Pr) (h : PE X e (tC v)) (hd : Still Y d v) : JE Y X e (eE P (.con d)) := by
  intro w tk
  refine PE.imp h fun σ H Q h => ?_
  obtain ⟨fg, ι, L, ρ, s, r, p⟩ := h
  exact Pq.ok s p v (hd _ _)
theorem je_bin (P : Pr) (hK : Y.K = X.K) {op : BOp} {x y : IE} (ha : JE Y X a (eE P x)) (hb : JE Y X b (eE P y)) : JE Y X (.BinOp a (bopOf op) b pos) (eE P (.bin op x y)) := by
  intro w tk
  refine PE.imp (pe_op (op_bin hK op) (ha w tk) (hb w tk)) fun σ H Q h => ?_
  obtain ⟨fg, ι, L, ρ, s, r, p⟩ := h
  simp only [eE] at p
  refine rd.one s r p fun u ι1 L1 H1 v e1 s1 r1 rv p1 => rd.one s1 r1 p1 fun u2 ι2 L2 H2 v2 e2 s2 r2 rv2 p2 => ?_
  cases q1 : peek u L2 with
  | none => rw [q1] at p2; exact p2.elim
  | some d1 =>
  cases q2 : peek u2 L2 with
  | none => rw [q1, q2] at p2; exact p2.elim
  | some d2 =>
  rw [q1, q2] at p2
  simp only at p2
  cases q3 : binO op d1 d2 with
  | none => rw [q3] at p2; exact p2.elim
  | some d =>
    rw [q3] at p2
    exact ⟨fg, ι2, L2, d1, d2, d, s2, peek_ok s2 (rv.ext e2) q1, peek_ok s2 rv2 q2, q3, fun v H' e' s' rd' => p2 ι2 H' e' s' v rd'⟩
theorem je_neg (P : Pr) {x : IE} (ha : JE Y X a (eE P x)) : JE Y X (.UnaryOp .USub a pos) (eE P (.neg x)) := by
  intro w tk
  refine PE.imp (pe_un un_neg (ha w tk)) fun σ H Q h => ?_
  obtain ⟨fg, ι, L, ρ, s, r, p⟩ := h
  simp only [eE] at p
  refine rd.one s r p fun u ι1 L1 H1 v e1 s1 r1 rv p1 => ?_
  cases u with
  | loc n => exact p1.elim
  | d d =>
    cases d with
    | int i =>
      cases (show RD Y _ _ (.int i) v from rv)
      exact ⟨i, rfl, Pq.ok s1 p1 _ (.int _)⟩
    | _ => exact p1.elim
theorem truth_ok {fg : Addr → Prop} {ι : List Addr} {L : List Obj} {H : Hp} {u : W} {v : V} {α : Type} {f : Bool → List Obj → R α} {k : α → List Addr → List Obj → Hp → Prop} {w : Wish} (hK : Y.K = X.K) (s : Sim Y fg ι L H) (r : RW Y fg ι L H u v)
    (p : Pq Y fg ι L H ((truthR u L).bind f) k w) : ∃ b, TruV X.K v H b ∧ Pq Y fg ι L H (f b L) k w := by
  unfold truthR at p
  cases q : (peek u L).bind truthO with
  | none => rw [q] at p; exact p.elim
  | some b =>
    rw [q] at p
    rw [Option.bind_eq_some_iff] at q
    obtain ⟨d, q1, q2⟩ := q
    exact ⟨b, tru_of hK (peek_ok s r q1) q2, p⟩
theorem je_not (P : Pr) (hK : Y.K = X.K) {x : IE} (ha : JE Y X a (eE P x)) : JE Y X (.UnaryOp .Not a pos) (eE P (.not x)) := by
  intro w tk
  refine PE.imp (pe_notT (ha w tk)) fun σ H Q h => ?_
  obtain ⟨fg, ι, L, ρ, s, r, p⟩ := h
  simp only [eE] at p
  refine rd.one s r p fun u ι1 L1 H1 v e1 s1 r1 rv p1 => ?_
  obtain ⟨k, t, p2⟩ := truth_ok hK s1 rv p1
  exact ⟨k, t, Pq.ok s1 p2 _ (.bl _)⟩
theorem je_one {op : BoolOp} (P : Pr) {x : IE} (ha : JE Y X a (eE P x)) : JE Y X (.BoolOp op [a] pos) (eE P x) := fun w tk => pe_one (ha w tk)
theorem je_and (P : Pr) (hK : Y.K = X.K) {x y : IE} {rest : List Expr} (ha : JE Y X a (eE P x)) (hb : JE Y X (.BoolOp .And (b :: rest) pos) (eE P y)) : JE Y X (.BoolOp .And (a :: b :: rest) pos) (eE P (.and x y)) := by
  intro w tk
  refine PE.imp (pe_andT (ha w tk) (hb w tk)) fun σ H Q h => ?_
  obtain ⟨fg, ι, L, ρ, s, r, p⟩ := h
  simp only [eE] at p
  refine rd.one s r p fun u ι1 L1 H1 v e1 s1 r1 rv p1 => ?_
  obtain ⟨k, t, p2⟩ := truth_ok hK s1 rv p1
  refine ⟨k, t, ?_⟩
  cases k with
  | true => exact ⟨fg, ι1, L1, ρ, s1, r1, p2⟩
  | false => exact Pq.ok s1 p2 _ rv
theorem je_or (P : Pr) (hK : Y.K = X.K) {x y : IE} {rest : List Expr} (ha : JE Y X a (eE P x)) (hb : JE Y X (.BoolOp .Or (b :: rest) pos) (eE P y)) : JE Y X (.BoolOp .Or (a :: b :: rest) pos) (eE P (.or x y)) := by
  intro w tk
  refine PE.imp (pe_orT (ha w tk) (hb w tk)) fun σ H Q h => ?_
  obtain ⟨fg, ι, L, ρ, s, r, p⟩ := h
  simp only [eE] at p
  refine rd.one s r p fun u ι1 L1 H1 v e1 s1 r1 rv p1 => ?_
  obtain ⟨k, t, p2⟩ := truth_ok hK s1 rv p1
  refine ⟨k, t, ?_⟩
  cases k with
  | true => exact Pq.ok s1 p2 _ rv
  | false => exact ⟨fg, ι1, L1, ρ, s1, r1, p2⟩
theorem cmp_ok {fg : Addr → Prop} {ι : List Addr} {L : List Obj} {H : Hp} {op : COp} {u u2 : W} {v v2 : V} {k : W → List Addr → List Obj → Hp → Prop} {w : Wish} {Q : VK} (s : Sim Y fg ι L H) (r : RW Y fg ι L H u v) (r2 : RW Y fg ι L H u2 v2)
    (p : Pq Y fg ι L H (match peek u L, peek u2 L with
      | some p, some q => outB L (cmpO op p q)
      | _, _ => .bad) k w) (hk : ∀ b, k (.d (.bl b)) ι L H → Q (.bl b) H) : rCmp Y op v v2 H Q := by
  cases q1 : peek u L with
  | none => rw [q1] at p; exact p.elim
  | some d1 =>
  cases q2 : peek u2 L with
  | none => rw [q1, q2] at p; exact p.elim
  | some d2 =>
  rw [q1, q2] at p
  simp only at p
  cases q3 : cmpO op d1 d2 with
  | none => rw [q3] at p; exact p.elim
  | some d =>
    rw [q3] at p
    exact ⟨fg, ι, L, d1, d2, d, s, peek_ok s r q1, peek_ok s r2 q2, q3, hk d (Pq.ok s p)⟩
theorem je_cmp (P : Pr) (hK : Y.K = X.K) (hu : X.A.units + 100 < cLine) {op : COp} {x y : IE} (ha : JE Y X a (eE P x)) (hb : JE Y X b (eE P y)) (hm : behindInMarks (copOf op) b = false) : JE Y X (.Compare a [copOf op] [b] pos) (eE P (.cmp op x y)) := by
  intro w tk
  refine PE.imp (pe_cmpR (op_cmp hK hu op) (ha w tk) (hb w tk) hm) fun σ H Q h => ?_
  obtain ⟨fg, ι, L, ρ, s, r, p⟩ := h
  simp only [eE] at p
  refine rd.one s r p fun u ι1 L1 H1 v e1 s1 r1 rv p1 => rd.one s1 r1 p1 fun u2 ι2 L2 H2 v2 e2 s2 r2 rv2 p2 => ?_
  exact cmp_ok s2 (rv.ext e2) rv2 p2 fun b k => k _ (.bl b)
theorem jt_cmp (P : Pr) (hK : Y.K = X.K) (hu : X.A.units + 100 < cLine) {op : COp} {x y : IE} (ha : JE Y X a (eE P x)) (hb : JE Y X b (eE P y)) (hm : behindInMarks (copOf op) b = false) :
    JT Y X (.Compare a [copOf op] [b] pos) (fun ρ L => (eE P (.cmp op x y) ρ L).bind truthR) := by
  intro w tk
  refine PT.imp (pt_cmpR (op_cmp hK hu op) (ha w tk) (hb w tk) hm) fun σ H Q h => ?_
  obtain ⟨fg, ι, L, ρ, s, r, p⟩ := h
  have p' := p.bind
  simp only [eE] at p'
  refine rd.one s r p' fun u ι1 L1 H1 v e1 s1 r1 rv p1 => rd.one s1 r1 p1 fun u2 ι2 L2 H2 v2 e2 s2 r2 rv2 p2 => ?_
  exact cmp_ok s2 (rv.ext e2) rv2 p2 fun b k => ⟨b, rfl, Pq.ok s2 k⟩
end
end EV

set_option maxRecDepth 100000
set_option maxHeartbeats 4000000
namespace EV
open PySem L2 PyProof.Rows
section
variable {Y : Lay} {X : Cx} {pos : Pos} {a b c e : Expr} {es : List Expr} {ma mb mc : Env → List Obj → R W}
theorem chain_ok (P : Pr) {op op' : COp} {x y z : IE} {w : WX} {σ : L2.St} {H : Hp} {Q : VK} {fg : Addr → Prop} {ι : List Addr} {L : List Obj} {ρ : Env} {k : W → List Addr → List Obj → Hp → Prop} (s : Sim Y fg ι L H) (r : RSl Y fg ι L H ρ σ)
    (p : Pq Y fg ι L H (eE P (.chain op op' x y z) ρ L) k fun c d H' => w c d σ H') (hk : ∀ b ι1 L1 H1, Sim Y fg ι1 L1 H1 → k (.d (.bl b)) ι1 L1 H1 → Q (.bl b) H1) : tChain (rCmp Y op) (rCmp Y op') (rd Y (eE P x) w) (rd Y (eE P y) w) (rd Y (eE P z) w) σ H Q := by
  simp only [eE] at p
  refine rd.one s r p fun u ι1 L1 H1 v e1 s1 r1 rv p1 => rd.one s1 r1 p1 fun u2 ι2 L2 H2 v2 e2 s2 r2 rv2 p2 => ?_
  cases q1 : peek u L2 with
  | none => rw [q1] at p2; exact p2.elim
  | some d1 =>
  cases q2 : peek u2 L2 with
  | none => rw [q1, q2] at p2; exact p2.elim
  | some d2 =>
  rw [q1, q2] at p2
  simp only at p2
  cases q3 : cmpO op d1 d2 with
  | none => rw [q3] at p2; exact p2.elim
  | some d =>
    rw [q3] at p2
    refine ⟨fg, ι2, L2, d1, d2, d, s2, peek_ok s2 (rv.ext e2) q1, peek_ok s2 rv2 q2, q3, d, rfl, ?_⟩
    cases d with
    | true =>
      refine rd.one s2 r2 p2 fun u3 ι3 L3 H3 v3 e3 s3 r3 rv3 p3 => ?_
      exact cmp_ok s3 (rv2.ext e3) rv3 p3 fun b k' => hk b _ _ _ s3 k'
    | false => exact hk _ _ _ _ s2 (Pq.ok s2 p2)
theorem je_chain (P : Pr) (hK : Y.K = X.K) (hu : X.A.units + 100 < cLine) {op op' : COp} {x y z : IE} (ha : JE Y X a (eE P x)) (hb : JE Y X b (eE P y)) (hc : JE Y X c (eE P z))
    (hm : behindInMarks (copOf op) b = false) (hm' : behindInMarks (copOf op') c = false) : JE Y X (.Compare a [copOf op, copOf op'] [b, c] pos) (eE P (.chain op op' x y z)) := by
  intro w tk
  refine PE.imp (pe_chain (op_cmp hK hu op) (op_cmp hK hu op') (ha w tk) (hb w tk) (hc w tk) (by first | exact hm | exact hm' | (show _ = _; simp [lastMarks, hm']))) fun σ H Q h => ?_
  obtain ⟨fg, ι, L, ρ, s, r, p⟩ := h
  exact chain_ok P s r p fun b ι1 L1 H1 s1 k => k _ (.bl b)
theorem jt_chain (P : Pr) (hK : Y.K = X.K) (hu : X.A.units + 100 < cLine) {op op' : COp} {x y z : IE} (ha : JE Y X a (eE P x)) (hb : JE Y X b (eE P y)) (hc : JE Y X c (eE P z))
    (hm : behindInMarks (copOf op) b = false) (hm' : behindInMarks (copOf op') c = false) : JT Y X (.Compare a [copOf op, copOf op'] [b, c] pos) (fun ρ L => (eE P (.chain op op' x y z) ρ L).bind truthR) := by
  intro w tk
  refine PT.imp (pt_chain (op_cmp hK hu op) (op_cmp hK hu op') (ha w tk) (hb w tk) (hc w tk) (by first | exact hm | exact hm' | (show _ = _; simp [lastMarks, hm']))) fun σ H Q h => ?_
  obtain ⟨fg, ι, L, ρ, s, r, p⟩ := h
  exact chain_ok P s r p.bind fun b ι1 L1 H1 s1 k => ⟨b, rfl, Pq.ok s1 k⟩

theorem jt_val (P : Pr) (hK : Y.K = X.K) {x : IE} (he : JE Y X e (eE P x)) (hw : ∀ whole, isTrue e X.env whole = (do let v ← whole; standAt e.pos; holding [v] (truthy v))) : JT Y X e (fun ρ L => (eE P x ρ L).bind truthR) := by
  intro w tk
  refine PT.imp (pt_truth (he w tk) hw) fun σ H Q h => ?_
  obtain ⟨fg, ι, L, ρ, s, r, p⟩ := h
  refine rd.one s r p fun u ι1 L1 H1 v e1 s1 r1 rv p1 => ?_
  have p2 : Pq Y fg ι1 L1 H1 ((truthR u L1).bind fun b L => .ok b L) (fun a _ _ H' => Q a H') (fun c d H' => w c d σ H') := by
    cases q : truthR u L1 with
    | ok b L2 => rw [q] at p1; exact p1
    | err x L2 => rw [q] at p1; exact p1
    | bad => rw [q] at p1; exact p1
  obtain ⟨k, t, p3⟩ := truth_ok hK s1 rv p2
  exact ⟨k, t, Pq.ok s1 p3⟩
theorem jt_not (P : Pr) {x : IE} (ha : JT Y X a (fun ρ L => (eE P x ρ L).bind truthR)) : JT Y X (.UnaryOp .Not a pos) (fun ρ L => (eE P (.not x) ρ L).bind truthR) := by
  intro w tk
  refine PT.imp (pt_not (ha w tk)) fun σ H Q h => ?_
  obtain ⟨fg, ι, L, ρ, s, r, p⟩ := h
  have e : (eE P (.not x) ρ L).bind truthR = ((eE P x ρ L).bind truthR).bind fun b L => .ok (!b) L := by
    simp only [eE]
    cases eE P x ρ L with
    | ok u L1 =>
      show ((truthR u L1).bind fun b L => R.ok (W.d (.bl (!b))) L).bind truthR = (truthR u L1).bind fun b L => .ok (!b) L
      cases truthR u L1 <;> rfl
    | err _ _ => rfl
    | bad => rfl
  dsimp only at p
  rw [e] at p
  exact rdT.one s r p fun b ι1 L1 H1 e1 s1 r1 p1 => Pq.ok s1 p1
theorem and_truth (P : Pr) (x y : IE) (ρ : Env) (L : List Obj) : (eE P (.and x y) ρ L).bind truthR = ((eE P x ρ L).bind truthR).bind fun c L => if c then (eE P y ρ L).bind truthR else .ok false L := by
  simp only [eE]
  cases eE P x ρ L with
  | ok u L1 =>
    show ((truthR u L1).bind fun c L => if c = true then eE P y ρ L else R.ok u L).bind truthR = (truthR u L1).bind fun c L => if c then (eE P y ρ L).bind truthR else .ok false L
    cases q : truthR u L1 with
    | ok c L2 =>
      have hL : L2 = L1 := by
        unfold truthR at q
        split at q <;> cases q
        rfl
      subst hL
      cases c with
      | true => rfl
      | false => exact q
    | err _ _ => rfl
    | bad => rfl
  | err _ _ => rfl
  | bad => rfl
theorem or_truth (P : Pr) (x y : IE) (ρ : Env) (L : List Obj) : (eE P (.or x y) ρ L).bind truthR = ((eE P x ρ L).bind truthR).bind fun c L => if c then .ok true L else (eE P y ρ L).bind truthR := by
  simp only [eE]
  cases eE P x ρ L with
  | ok u L1 =>
    show ((truthR u L1).bind fun c L => if c = true then R.ok u L else eE P y ρ L).bind truthR = (truthR u L1).bind fun c L => if c then .ok true L else (eE P y ρ L).bind truthR
    cases q : truthR u L1 with
    | ok c L2 =>
      have hL : L2 = L1 := by
        unfold truthR at q
        split at q <;> cases q
        rfl
      subst hL
      cases c with
      | true => exact q
      | false => rfl
    | err _ _ => rfl
    | bad => rfl
  | err _ _ => rfl
  | bad => rfl
/-- a chain of and, or -/
def JW (Y : Lay) (X : Cx) (e : Expr) (m : Env → List Obj → R Bool) : Prop := ∀ w, Takes X w → PW X e (rdT Y m w)
theorem JW.jt {m : Env → List Obj → R Bool} (h : JW Y X e m) : JT Y X e m := fun w tk => (h w tk).pt
theorem jw_one_and {m : Env → List Obj → R Bool} (ha : JT Y X a m) : JW Y X (.BoolOp .And [a] pos) m := fun w tk => pw_and1 (ha w tk)
theorem jw_one_or {m : Env → List Obj → R Bool} (ha : JT Y X a m) : JW Y X (.BoolOp .Or [a] pos) m := fun w tk => pw_or1 (ha w tk)
theorem jw_and (P : Pr) {x y : IE} {rest : List Expr} (ha : JT Y X a (fun ρ L => (eE P x ρ L).bind truthR)) (hb : JW Y X (.BoolOp .And (b :: rest) pos) (fun ρ L => (eE P y ρ L).bind truthR)) :
    JW Y X (.BoolOp .And (a :: b :: rest) pos) (fun ρ L => (eE P (.and x y) ρ L).bind truthR) := by
  intro w tk
  refine PW.imp (pw_and (ha w tk) (hb w tk)) fun σ H Q h => ?_
  obtain ⟨fg, ι, L, ρ, s, r, p⟩ := h
  dsimp only at p
  rw [and_truth] at p
  refine rdT.one s r p fun b ι1 L1 H1 e1 s1 r1 p1 => ?_
  cases b with
  | true => exact ⟨fg, ι1, L1, ρ, s1, r1, p1⟩
  | false => exact Pq.ok s1 p1
theorem jw_or (P : Pr) {x y : IE} {rest : List Expr} (ha : JT Y X a (fun ρ L => (eE P x ρ L).bind truthR)) (hb : JW Y X (.BoolOp .Or (b :: rest) pos) (fun ρ L => (eE P y ρ L).bind truthR)) :
    JW Y X (.BoolOp .Or (a :: b :: rest) pos) (fun ρ L => (eE P (.or x y) ρ L).bind truthR) := by
  intro w tk
  refine PW.imp (pw_or (ha w tk) (hb w tk)) fun σ H Q h => ?_
  obtain ⟨fg, ι, L, ρ, s, r, p⟩ := h
  dsimp only at p
  rw [or_truth] at p
  refine rdT.one s r p fun b ι1 L1 H1 e1 s1 r1 p1 => ?_
  cases b with
  | true => exact Pq.ok s1 p1
  | false => exact ⟨fg, ι1, L1, ρ, s1, r1, p1⟩
theorem je_ite (P : Pr) {t x y : IE} (ht : JT Y X c (fun ρ L => (eE P t ρ L).bind truthR)) (ha : JE Y X a (eE P x)) (hb : JE Y X b (eE P y)) : JE Y X (.IfExp c a b pos) (eE P (.ite t x y)) := by
  intro w tk
  refine PE.imp (pe_ifExp (ht w tk) (ha w tk) (hb w tk)) fun σ H Q h => ?_
  obtain ⟨fg, ι, L, ρ, s, r, p⟩ := h
  have e : eE P (.ite t x y) ρ L = ((eE P t ρ L).bind truthR).bind fun c L => if c then eE P x ρ L else eE P y ρ L := by
    simp only [eE]
    cases eE P t ρ L <;> rfl
  rw [e] at p
  refine rdT.one s r p fun b ι1 L1 H1 e1 s1 r1 p1 => ?_
  cases b with
  | true => exact ⟨fg, ι1, L1, ρ, s1, r1, p1⟩
  | false => exact ⟨fg, ι1, L1, ρ, s1, r1, p1⟩

def noStar1 : Expr → Bool
  | .Starred _ _ => false
  | _ => true
def noStar (es : List Expr) : Bool := es.all noStar1
theorem star1 {env : PySem.Env} (h : noStar1 e = true) : starEach (e :: es) env = (false, eval e env) :: starEach es env := by
  cases e <;> first | rfl | cases h
theorem star_any {env : PySem.Env} : ∀ {es : List Expr}, noStar es = true → (backTo pos (starEach es env)).any (·.1) = false
  | [], _ => rfl
  | e :: es, h => by
    unfold noStar at h
    rw [List.all_cons, Bool.and_eq_true] at h
    rw [star1 h.1]
    exact star_any (es := es) h.2
theorem star_few {env : PySem.Env} : ∀ {es : List Expr}, noStar es = true → (backTo pos (starEach es env)).all (fun x => !x.1) = true
  | [], _ => rfl
  | e :: es, h => by
    unfold noStar at h
    rw [List.all_cons, Bool.and_eq_true] at h
    rw [star1 h.1]
    exact star_few (es := es) h.2
theorem ja_nil (P : Pr) : JA Y X [] (eEs P []) := by
  intro w tk
  refine PA.imp pa_nil fun σ H Q h => ?_
  obtain ⟨fg, ι, L, ρ, s, r, p⟩ := h
  exact Pq.ok s p _ .nil
theorem ja_cons (P : Pr) {x : IE} {xs : List IE} (hs : noStar1 e = true) (ha : JE Y X e (eE P x)) (hb : JA Y X es (eEs P xs)) : JA Y X (e :: es) (eEs P (x :: xs)) := by
  intro w tk
  refine PA.imp (pa_cons (ha w tk) (hb w tk) (star1 hs)) fun σ H Q h => ?_
  obtain ⟨fg, ι, L, ρ, s, r, p⟩ := h
  simp only [eEs] at p
  refine rd.one s r p fun u ι1 L1 H1 v e1 s1 r1 rv p1 => rdA.one s1 r1 p1 fun us ι2 L2 H2 vs e2 s2 r2 rvs p2 => ?_
  exact Pq.ok s2 p2 _ (.cons (rv.ext e2) rvs)
/-- handed over for good -/
theorem asD_ok {fg : Addr → Prop} {ι : List Addr} {L L1 : List Obj} {H : Hp} {u : W} {v : V} {d : D} (s : Sim Y fg ι L H) (r : RW Y fg ι L H u v) (e : asD u L = some (d, L1)) : Ext fg ι L H ι L1 H ∧ Sim Y fg ι L1 H ∧ RD Y (av fg ι L1) H d v := by
  cases u with
  | d x =>
    simp only [asD, Option.some.injEq, Prod.mk.injEq] at e
    obtain ⟨rfl, rfl⟩ := e
    exact ⟨.refl, s, r⟩
  | loc n =>
    obtain ⟨a, rfl, ha⟩ := r
    simp only [asD, Option.map_eq_some_iff, Prod.mk.injEq, Option.bind_eq_some_iff] at e
    obtain ⟨d', ⟨o, ho, hd⟩, rfl, rfl⟩ := e
    have hn : n < L.length := (List.getElem?_eq_some_iff.mp ho).1
    have sub : ∀ b, av fg ι (L.set n (.frz d')) b → av fg ι L b ∧ b ≠ a := by
      rintro b (h | ⟨m, q, h1, h2, h3⟩)
      · exact ⟨.inl h, fun z => s.fgi a (List.mem_of_getElem? ha) (z ▸ h)⟩
      · by_cases hm : n = m
        · subst hm
          rw [List.getElem?_set_self hn] at h2
          cases h2
          cases h3
        · rw [List.getElem?_set_ne hm] at h2
          refine ⟨.inr ⟨m, q, h1, h2, h3⟩, fun z => hm ?_⟩
          subst z
          obtain ⟨l1, e1⟩ := List.getElem?_eq_some_iff.mp h1
          obtain ⟨l2, e2⟩ := List.getElem?_eq_some_iff.mp ha
          exact (List.getElem_inj s.nd).mp (e2.trans e1.symm)
    have ee : Ext fg ι L H ι (L.set n (.frz d')) H := ⟨⟨[], by simp⟩, fun _ _ h _ => h, fun b h => .inl (sub b h).1, fun _ h => .inl h, fun _ _ h _ => h⟩
    have rdd : RD Y (av fg ι (L.set n (.frz d'))) H d' (.ref a) := by
      have hna : ¬ av fg ι (L.set n (.frz d')) a := fun z => (sub a z).2 rfl
      have ro := s.obj n a o ha ho
      cases o with
      | lst xs =>
        simp only [Obj.data, Option.some.injEq] at hd
        subst hd
        obtain ⟨vs, q, r⟩ := ro
        exact .lst ⟨q, hna⟩ (r.grow ee.grow)
      | dct xs =>
        simp only [Obj.data, Option.some.injEq] at hd
        subst hd
        obtain ⟨vs, q, r⟩ := ro
        exact .dct q hna (r.grow ee.grow)
      | ins c fs =>
        simp only [Obj.data, Option.map_eq_some_iff] at hd
        obtain ⟨ds, hi, rfl⟩ := hd
        obtain ⟨C, dx, gs, q1, q2, r⟩ := ro
        exact .ins q1 q2 hna ((r.data hi).grow ee.grow)
      | frz x =>
        simp only [Obj.data, Option.some.injEq] at hd
        subst hd
        exact RD.grow ee.grow ro
    refine ⟨ee, ⟨by rw [List.length_set]; exact s.len, s.nd, fun m b q h1 h2 => ?_, s.fgn, s.fgi, s.dom⟩, rdd⟩
    by_cases hm : n = m
    · subst hm
      rw [ha] at h1
      cases h1
      rw [List.getElem?_set_self hn] at h2
      cases h2
      exact rdd
    · rw [List.getElem?_set_ne hm] at h2
      have ro := s.obj m b q h1 h2
      cases q with
      | lst xs =>
        obtain ⟨vs, q, r⟩ := ro
        exact ⟨vs, q, r.grow ee.grow⟩
      | dct xs =>
        obtain ⟨vs, q, r⟩ := ro
        exact ⟨vs, q, r.grow ee.grow⟩
      | ins c xs =>
        obtain ⟨C, dx, gs, q1, q2, r⟩ := ro
        exact ⟨C, dx, gs, q1, q2, r.ext ee⟩
      | frz d => exact RD.grow ee.grow ro
theorem asDs_ok {fg : Addr → Prop} {ι : List Addr} {H : Hp} : ∀ {L L1 : List Obj} {us : List W} {vs : List V} {ds : List D}, Sim Y fg ι L H → RWs Y fg ι L H us vs → asDs us L = some (ds, L1) → Ext fg ι L H ι L1 H ∧ Sim Y fg ι L1 H ∧ RDs Y (av fg ι L1) H ds vs
  | _, _, _, _, _, s, .nil, e => by
    simp only [asDs, Option.some.injEq, Prod.mk.injEq] at e
    obtain ⟨rfl, rfl⟩ := e
    exact ⟨.refl, s, .nil⟩
  | _, _, _, _, _, s, .cons r rs, e => by
    simp only [asDs, Option.bind_eq_some_iff, Option.map_eq_some_iff, Prod.mk.injEq] at e
    obtain ⟨⟨d, La⟩, e1, ⟨ds, Lb⟩, e2, rfl, rfl⟩ := e
    obtain ⟨x1, s1, r1⟩ := asD_ok s r e1
    obtain ⟨x2, s2, r2⟩ := asDs_ok s1 (rs.ext x1) e2
    exact ⟨x1.trans x2, s2, .cons (RD.grow x2.grow r1) r2⟩
/-- from here on -/
theorem Pq.on {α : Type} {fg : Addr → Prop} {ι ι1 : List Addr} {L L1 : List Obj} {H H1 : Hp} {r : R α} {k : α → List Addr → List Obj → Hp → Prop} {w : Wish} (e : Ext fg ι L H ι1 L1 H1) (p : Pq Y fg ι L H r k w) : Pq Y fg ι1 L1 H1 r k w := by
  cases r with
  | ok a L2 => exact fun ι2 H2 e2 s2 => p ι2 H2 (e.trans e2) s2
  | err x L2 => exact fun c d ι2 H2 e2 s2 r2 => p c d ι2 H2 (e.trans e2) s2 r2
  | bad => exact p
theorem Pq.nwF {fg : Addr → Prop} {ι : List Addr} {L : List Obj} {H : Hp} {m : Bool} {d : D} {Q : VK} {w : Wish} (p : Pq Y fg ι L H (fresh m d L) (fun w ι' L' H' => ∀ v, RW Y fg ι' L' H' w v → Q v H') w) : NwF Y fg ι L H m d Q := by
  unfold NwF
  cases q : fresh m d L with
  | ok u L1 => rw [q] at p; exact fun v ι' H' e s r => p ι' H' e s v r
  | err x L1 =>
    unfold fresh alloc at q
    split at q
    · split at q <;> cases q
    · cases q
  | bad => rw [q] at p; exact p
theorem RDs.sz {fg : Addr → Prop} {ι : List Addr} {L : List Obj} {H : Hp} {ds : List D} {vs : List V} (r : RDs Y (av fg ι L) H ds vs) (h : ds.length ≤ SZ) : vs.length ≤ sizeLine := by rw [r.length, ← sz_eq]; exact h
theorem asDs_len : ∀ {us : List W} {L L1 : List Obj} {ds : List D}, asDs us L = some (ds, L1) → ds.length = us.length
  | [], _, _, _, e => by
    simp only [asDs, Option.some.injEq, Prod.mk.injEq] at e
    obtain ⟨rfl, rfl⟩ := e
    rfl
  | u :: us, _, _, _, e => by
    simp only [asDs, Option.bind_eq_some_iff, Option.map_eq_some_iff, Prod.mk.injEq] at e
    obtain ⟨⟨d, La⟩, e1, ⟨ds, Lb⟩, e2, rfl, rfl⟩ := e
    simp [asDs_len e2]
theorem eEs_len (P : Pr) : ∀ {xs : List IE} {ρ : Env} {L L1 : List Obj} {us : List W}, eEs P xs ρ L = .ok us L1 → us.length = xs.length
  | [], _, _, _, _, e => by
    simp only [eEs, R.ok.injEq] at e
    rw [← e.1]; rfl
  | x :: xs, ρ, L, L1, us, e => by
    simp only [eEs] at e
    cases q : eE P x ρ L with
    | ok u La =>
      rw [q] at e
      simp only [R.bind] at e
      cases q2 : eEs P xs ρ La with
      | ok vs Lb =>
        rw [q2] at e
        simp only [R.bind, R.ok.injEq] at e
        rw [← e.1, List.length_cons, eEs_len P q2, List.length_cons]
      | err _ _ => rw [q2] at e; cases e
      | bad => rw [q2] at e; cases e
    | err _ _ => rw [q] at e; cases e
    | bad => rw [q] at e; cases e
theorem je_tup (P : Pr) {xs : List IE} {k : Nat} (hz : xs.length ≤ 1000) (ha : JA Y X es (eEs P xs)) : JE Y X (.Tuple es k pos) (eE P (.tup xs)) := by
  intro w tk
  refine PE.imp (pe_tup (ha w tk)) fun σ H Q h => ?_
  obtain ⟨fg, ι, L, ρ, s, r, p⟩ := h
  simp only [eE] at p
  refine ⟨fg, ι, L, ρ, s, r, ?_⟩
  cases hq : eEs P xs ρ L with
  | bad => rw [hq] at p; exact p.elim
  | err x La => rw [hq] at p; exact p
  | ok us La =>
    rw [hq] at p
    have hlen := eEs_len P hq
    intro ι1 H1 e1 s1 vs rv
    have p1 := Pq.on e1 p
    simp only [R.bind] at p1
    cases q : asDs us La with
    | none => rw [q] at p1; exact p1.elim
    | some y =>
      obtain ⟨ds, L2⟩ := y
      rw [q] at p1
      obtain ⟨x1, s2, r2⟩ := asDs_ok s1 rv q
      have hl2 := asDs_len q
      refine ⟨r2.sz (by show ds.length ≤ 16777216; omega), fun pa hp => ?_⟩
      exact Nw.tup (fun v H' e' s' rd' => (Pq.on x1 p1) ι1 H' e' s' v rd') s2 r2 hp
theorem je_lst (P : Pr) {m : Bool} {xs : List IE} (hz : xs.length ≤ 1000) (ha : JA Y X es (eEs P xs)) : JE Y X (.List es pos) (eE P (.lst m xs)) := by
  intro w tk
  refine PE.imp (pe_lst (ha w tk)) fun σ H Q h => ?_
  obtain ⟨fg, ι, L, ρ, s, r, p⟩ := h
  simp only [eE] at p
  refine ⟨fg, ι, L, ρ, s, r, ?_⟩
  cases hq : eEs P xs ρ L with
  | bad => rw [hq] at p; exact p.elim
  | err x La => rw [hq] at p; exact p
  | ok us La =>
    rw [hq] at p
    have hlen := eEs_len P hq
    intro ι1 H1 e1 s1 vs rv
    have p1 := Pq.on e1 p
    simp only [R.bind] at p1
    cases q : asDs us La with
    | none => rw [q] at p1; exact p1.elim
    | some y =>
      obtain ⟨ds, L2⟩ := y
      rw [q] at p1
      obtain ⟨x1, s2, r2⟩ := asDs_ok s1 rv q
      have hl2 := asDs_len q
      refine ⟨r2.sz (by show ds.length ≤ 16777216; omega), fun pa hp => ?_⟩
      have p2 : Pq Y fg ι1 L2 H1 (fresh m (.lst ds) L2) (fun w ι' L' H' => ∀ v, RW Y fg ι' L' H' w v → Q v H') (fun c d H' => w c d σ H') := Pq.on x1 p1
      exact NwF.lst (Pq.nwF p2) s2 r2 hp

def plainIxB : Expr → Bool
  | .Slice _ _ _ _ => false
  | _ => true
theorem plainIx (h : plainIxB b = true) : PlainIx b := by
  intro o i
  cases b <;> first | rfl | cases h
theorem je_idx (P : Pr) (hK : Y.K = X.K) (hu : X.A.units + 100 < cLine) {x y : IE} (hs : plainIxB b = true) (ha : JE Y X a (eE P x)) (hb : JE Y X b (eE P y)) : JE Y X (.Subscript a b pos) (eE P (.idx x y)) := by
  intro w tk
  refine PE.imp (pe_ix (ix_get hK hu) (ha w tk) (hb w tk) (plainIx hs)) fun σ H Q h => ?_
  obtain ⟨fg, ι, L, ρ, s, r, p⟩ := h
  simp only [eE] at p
  refine rd.one s r p fun u ι1 L1 H1 v e1 s1 r1 rv p1 => rd.one s1 r1 p1 fun u2 ι2 L2 H2 v2 e2 s2 r2 rv2 p2 => ?_
  cases q1 : peek u L2 with
  | none => rw [q1] at p2; exact p2.elim
  | some d1 =>
  cases q2 : peek u2 L2 with
  | none => rw [q1, q2] at p2; exact p2.elim
  | some d2 =>
  rw [q1, q2] at p2
  simp only at p2
  cases q3 : getO d1 d2 with
  | none => rw [q3] at p2; exact p2.elim
  | some d =>
    rw [q3] at p2
    exact ⟨fg, ι2, L2, d1, d2, d, s2, peek_ok s2 (rv.ext e2) q1, peek_ok s2 rv2 q2, q3, fun v rd' => Pq.ok s2 p2 v rd'⟩
/-- an end of a slice -/
def rdO (Y : Lay) (m : Env → List Obj → R (Option Int)) (w : WX) : TO := fun σ H Q => ∃ fg ι L ρ, Sim Y fg ι L H ∧ RSl Y fg ι L H ρ σ ∧
  Pq Y fg ι L H (m ρ L) (fun a _ _ H' => Q a H') (fun c d H' => w c d σ H')
def JO (Y : Lay) (X : Cx) (e : Option Expr) (m : Env → List Obj → R (Option Int)) : Prop := ∀ w, Takes X w → PO X e (rdO Y m w)
theorem PO.imp {e : Option Expr} {t t' : TO} (h : PO X e t) (k : ∀ σ H Q, t' σ H Q → t σ H Q) : PO X e t' := ⟨fun pins s σ H Q I q => h.run pins s σ H Q I (k _ _ _ q)⟩
theorem jo_none (P : Pr) : JO Y X none (eEo P none) := by
  intro w tk
  refine PO.imp po_none fun σ H Q h => ?_
  obtain ⟨fg, ι, L, ρ, s, r, p⟩ := h
  exact Pq.ok s p
theorem jo_some (P : Pr) {x : IE} (ha : JE Y X e (eE P x)) : JO Y X (some e) (eEo P (some x)) := by
  intro w tk
  refine PO.imp (po_some (ha w tk)) fun σ H Q h => ?_
  obtain ⟨fg, ι, L, ρ, s, r, p⟩ := h
  simp only [eEo] at p
  refine rd.one s r p fun u ι1 L1 H1 v e1 s1 r1 rv p1 => ?_
  cases u with
  | loc n => exact p1.elim
  | d d =>
    cases d with
    | int i =>
      cases (show RD Y _ _ (.int i) v from rv)
      exact ⟨i, rfl, Pq.ok s1 p1⟩
    | _ => exact p1.elim
theorem rdO.one {α : Type} {fg : Addr → Prop} {ι : List Addr} {L : List Obj} {H : Hp} {σ : L2.St} {w : WX} {ρ : Env} {m : Env → List Obj → R (Option Int)} {f : Option Int → List Obj → R α} {k : α → List Addr → List Obj → Hp → Prop} {Q : Option Int → Hp → Prop}
    (s : Sim Y fg ι L H) (r : RSl Y fg ι L H ρ σ) (p : Pq Y fg ι L H ((m ρ L).bind f) k fun c d H' => w c d σ H')
    (h : ∀ a ι1 L1 H1, Ext fg ι L H ι1 L1 H1 → Sim Y fg ι1 L1 H1 → RSl Y fg ι1 L1 H1 ρ σ → Pq Y fg ι1 L1 H1 (f a L1) k (fun c d H' => w c d σ H') → Q a H1) : rdO Y m w σ H Q :=
  ⟨fg, ι, L, ρ, s, r, p.bind.mono (fun a ι1 L1 H1 e s1 p1 => h a ι1 L1 H1 e s1 (r.ext e) p1) fun _ _ _ z => z⟩
theorem je_slice (P : Pr) (hK : Y.K = X.K) {x : IE} {l h : Option IE} {lo hi : Option Expr} {p2 : Pos} (ha : JE Y X a (eE P x)) (hl : JO Y X lo (eEo P l)) (hh : JO Y X hi (eEo P h)) : JE Y X (.Subscript a (.Slice lo hi none p2) pos) (eE P (.slice x l h)) := by
  intro w tk
  refine PE.imp (pe_slice (sl_slice hK) (ha w tk) (hl w tk) (hh w tk)) fun σ H Q h => ?_
  obtain ⟨fg, ι, L, ρ, s, r, p⟩ := h
  simp only [eE] at p
  refine rd.one s r p fun u ι1 L1 H1 v e1 s1 r1 rv p1 => rdO.one s1 r1 p1 fun lv ι2 L2 H2 e2 s2 r2 p2 => rdO.one s2 r2 p2 fun hv ι3 L3 H3 e3 s3 r3 p3 => ?_
  cases q1 : peek u L3 with
  | none => rw [q1] at p3; exact p3.elim
  | some d1 =>
    rw [q1] at p3
    simp only at p3
    cases q3 : sliceO d1 lv hv with
    | none => rw [q3] at p3; exact p3.elim
    | some d =>
      rw [q3] at p3
      exact ⟨fg, ι3, L3, d1, d, s3, peek_ok s3 ((rv.ext e2).ext e3) q1, q3, fun v H' e' s' rd' => p3 ι3 H' e' s' v rd'⟩

/-- what is known of a def that may be called -/
structure FnFact (P : Pr) (Y : Lay) (X : Cx) (x : Str) (f n : Nat) : Prop where
  ex : ∃ (fa : Addr) (fd : FuncData) (ps : List Str) (k : Nat), X.mg x = some (.ref fa) ∧ PySem.W.keepIn X.K (.ref fa) = true ∧ Binds X.K fd ps [] ∧ ps.length = n ∧ FnG X.prog X.w X.K X.mg X.base (L2.CX X.prog X.w) k fa fd ps (spF Y (P.fn f) n) ∧ Room k X.A ∧ X.A.guards = some []
theorem RWs.len {fg : Addr → Prop} {ι : List Addr} {L : List Obj} {H : Hp} : ∀ {us : List W} {vs : List V}, RWs Y fg ι L H us vs → vs.length = us.length
  | _, _, .nil => rfl
  | _, _, .cons _ rs => by rw [List.length_cons, List.length_cons, RWs.len rs]
theorem je_call (P : Pr) {m : Bool} {xs : List IE} {x : Str} {f : Nat} {p : Pos} (hne : es ≠ []) (F : FnFact P Y X x f xs.length) (hg : Gl X x) (hdb : (x == ("__debug__" : Str)) = false) (hs : noStar es = true) (ha : JA Y X es (eEs P xs)) : JE Y X (.Call (.Name x p) es [] pos) (eE P (.call m f xs)) := by
  intro w tk
  obtain ⟨fa, fd, ps, k, hm, hk, hb, hn, F, hr, gu⟩ := F.ex
  have body : ∀ σ H Q, rd Y (eE P (.call m f xs)) w σ H Q → rdA Y (eEs P xs) w σ H fun vs H1 => spF Y (P.fn f) xs.length vs H1 Q (WE w σ) := fun σ H Q h => by
    obtain ⟨fg, ι, L, ρ, s, r, p⟩ := h
    simp only [eE] at p
    refine ⟨fg, ι, L, ρ, s, r, ?_⟩
    cases hq : eEs P xs ρ L with
    | bad => rw [hq] at p; exact p.elim
    | err x La => rw [hq] at p; exact p
    | ok us La =>
      rw [hq] at p
      intro ι1 H1 e1 s1 vs rv
      have p1 := Pq.on e1 p
      exact call_ok s1 rv (by rw [rv.len, eEs_len P hq]) p1
  cases es with
  | nil => exact absurd rfl hne
  | cons e0 es =>
    unfold noStar at hs
    rw [List.all_cons, Bool.and_eq_true] at hs
    exact PE.imp (pe_callG F hr gu hg hm hk hb (passAt tk) (ha w tk) hdb (star1 hs.1) (star_any hs.2)) fun σ H Q h => body σ H Q h
theorem je_call0 (P : Pr) {m : Bool} {x : Str} {f : Nat} {p : Pos} (F : FnFact P Y X x f 0) (hg : Gl X x) (hdb : (x == ("__debug__" : Str)) = false) : JE Y X (.Call (.Name x p) [] [] pos) (eE P (.call m f [])) := by
  intro w tk
  obtain ⟨fa, fd, ps, k, hm, hk, hb, hn, F, hr, gu⟩ := F.ex
  refine PE.imp (pe_callG0 F hr gu hg hm hk hb (passAt tk) hdb) fun σ H Q h => ?_
  obtain ⟨fg, ι, L, ρ, s, r, p⟩ := h
  simp only [eE, eEs] at p
  exact call_ok (ws := []) s .nil rfl p
/-- built-in functions -/
def bnName : Bn → Str
  | .len => "len" | .abs => "abs" | .int => "int" | .max => "max" | .min => "min" | .isin _ => "isinstance" | .all => "all" | .any => "any" | .sum => "sum" | .tuple => "tuple" | .list => "list" | .repr => "repr" | .sorted => "sorted" | .dict => "dict"
theorem bn_boot (b : Bn) : bootBuiltins (bnName b) = some (bnVal b) := by
  cases b <;> first | (simp only [bnName, bnVal]; decide +kernel) | rfl
theorem bn_run (P : Pr) (hK : Y.K = X.K) {m : Bool} {b : Bn} {xs : List IE} {w : WX} {σ : L2.St} {H : Hp} {Q : VK} (h : rd Y (eE P (.bn m b xs)) w σ H Q) : rdA Y (eEs P xs) w σ H fun vs H1 => rBn Y m b (vs ++ bnMore b) H1 Q := by
  obtain ⟨fg, ι, L, ρ, s, r, p⟩ := h
  simp only [eE] at p
  refine rdA.one s r p fun us ι1 L1 H1 vs e1 s1 r1 rv p1 => ?_
  cases q : peeks us L1 with
  | none => rw [q] at p1; exact p1.elim
  | some ds =>
    rw [q] at p1
    simp only at p1
    cases q2 : bnO b ds with
    | none => rw [q2] at p1; exact p1.elim
    | some d =>
      rw [q2] at p1
      exact ⟨fg, ι1, L1, ds, d, vs, s1, peeks_ok s1 rv q, q2, rfl, Pq.nwF p1⟩
theorem je_bn (P : Pr) (hK : Y.K = X.K) (hgu : X.A.guards = some []) (hu : X.A.units + 100 < cLine) (hc : X.calm = true) {m : Bool} {b : Bn} {xs : List IE} {p : Pos} (hb : bnOk b = true) (hne : es ≠ []) (hmore : bnMore b = []) (hg : Gl X (bnName b)) (hm : X.mg (bnName b) = none) (hn : bnName b ≠ "__name__") (hdb : (bnName b == ("__debug__" : Str)) = false)
    (hs : noStar es = true) (ha : JA Y X es (eEs P xs)) : JE Y X (.Call (.Name (bnName b) p) es [] pos) (eE P (.bn m b xs)) := by
  intro w tk
  cases es with
  | nil => exact absurd rfl hne
  | cons e0 es =>
    unfold noStar at hs
    rw [List.all_cons, Bool.and_eq_true] at hs
    have hbo := bn_boot b
    have hr := cr_bn (Y := Y) hK hgu hu hc m b hb
    have fin : ∀ σ H Q, rd Y (eE P (.bn m b xs)) w σ H Q → rdA Y (eEs P xs) w σ H fun vs H1 => rBn Y m b vs H1 Q := fun σ H Q h => by
      have := bn_run P hK h
      rw [hmore] at this
      simpa using this
    cases b with
    | int => exact PE.imp (pe_callTy hr hg hm hbo (ha w tk) hn hdb (star1 hs.1) (star_any hs.2)) fin
    | tuple => exact PE.imp (pe_callTy hr hg hm hbo (ha w tk) hn hdb (star1 hs.1) (star_any hs.2)) fin
    | list => exact PE.imp (pe_callTy hr hg hm hbo (ha w tk) hn hdb (star1 hs.1) (star_any hs.2)) fin
    | dict => exact PE.imp (pe_callTy hr hg hm hbo (ha w tk) hn hdb (star1 hs.1) (star_any hs.2)) fin
    | _ => exact PE.imp (pe_callB hr hg hm hbo (ha w tk) hn hdb (star1 hs.1) (star_any hs.2)) fin
/-- isinstance(x, T) -/
theorem je_isin (P : Pr) (hK : Y.K = X.K) (hgu : X.A.guards = some []) (hu : X.A.units + 100 < cLine) (hc : X.calm = true) {t : Nat} {x : IE} {p : Pos} (ht : t < 6) (hg : Gl X "isinstance") (hm : X.mg "isinstance" = none) (hs : noStar1 a = true) (hsb : noStar1 b = true) (ha : JE Y X a (eE P x)) (hb : PE X b (tC (.ty (tyName t)))) :
    JE Y X (.Call (.Name "isinstance" p) [a, b] [] pos) (eE P (.bn false (.isin t) [x])) := by
  intro w tk
  have hr := cr_bn (Y := Y) hK hgu hu hc false (.isin t) (decide_eq_true ht)
  have hpa : PA X [a, b] (tCons (rd Y (eE P x) w) (tCons (tC (.ty (tyName t))) tNil)) := pa_cons (ha w tk) (pa_cons hb pa_nil (star1 hsb)) (star1 hs)
  refine PE.imp (pe_callB hr hg hm (bn_boot (.isin t)) hpa (by decide) (by decide) (star1 hs) (star_any (by unfold noStar; rw [List.all_cons, hsb]; rfl))) fun σ H Q h => ?_
  have h2 := bn_run P hK h
  obtain ⟨fg, ι, L, ρ, s, r, p⟩ := h2
  refine ⟨fg, ι, L, ρ, s, r, ?_⟩
  simp only [eEs] at p
  refine p.bind.mono (fun u ι1 L1 H1 e1 s1 p1 v rv => ?_) fun _ _ _ z => z
  exact Pq.ok s1 p1 [v] (.cons rv .nil)
def mnT : Mn → String
  | .join => "str" | .count => "str" | .lower => "str" | .isalpha => "str" | .index => "str"
def mnName : Mn → Str
  | .join => "join" | .count => "count" | .lower => "lower" | .isalpha => "isalpha" | .index => "index"
def baseB : Expr → Bool
  | .Call _ _ _ _ => false
  | _ => true
theorem base_ok {o : Expr} {m : Str} {env : PySem.Env} (h : baseB o = true) : attributeBase o m env (eval o env) = eval o env := by
  cases o <;> first | rfl | cases h
theorem mn_plain (b : Mn) : PlainAttrs (mnT b) := by cases b <;> exact PySem.F.plainAttrs_str
theorem mn_slot (b : Mn) : Slot (mnT b) (mnName b) (mnId b) := by
  cases b
  · exact PySem.F.slot_str_join
  · exact PySem.F.slot_str_count
  · exact PySem.F.slot_str_lower
  · exact PySem.F.slot_str_isalpha
  · exact PySem.F.slot_str_index
theorem mn_type (b : Mn) : typeOf (.builtin (mnId b)) = pure (.type "method_descriptor") := by
  cases b
  · exact PySem.F.type_str_join
  · exact PySem.F.type_str_count
  · exact PySem.F.type_str_lower
  · exact PySem.F.type_str_isalpha
  · exact PySem.F.type_str_index
theorem mn_ty (hK : Y.K = X.K) {fg : Addr → Prop} {ι : List Addr} {L : List Obj} {H : Hp} {b : Mn} {o : W} {v : V} (s : Sim Y fg ι L H) (r : RW Y fg ι L H o v) (e : mnPre b o L = true) : tyV X.K (mnT b) v H := by
  unfold mnPre at e
  cases q : peek o L with
  | none => rw [q] at e; cases e
  | some d =>
    rw [q] at e
    have p := peek_ok s r q
    have e' : tyOf d = some (mnN b) := by simpa using e
    cases b <;> (cases d <;> simp [tyOf, mnN] at e') <;> (rw [p.str]; rfl)
theorem few_ok {env : PySem.Env} {cpos : Pos} (hs : noStar es = true) (hl : es.length < 29) : ((backTo cpos (starEach es env)).all (fun x => !x.1) && (backToKw cpos (keywordEach [] env)).all (fun x => x.1.isSome)
      && decide (es.length + ([] : List Keyword).length + (if ([] : List Keyword).isEmpty then 0 else 1) < 30)) = true := by
  rw [star_few hs]
  show (true && decide (es.length + 0 + 0 < 30)) = true
  rw [decide_eq_true (by omega)]
  rfl
theorem je_mn (P : Pr) (hK : Y.K = X.K) {m : Bool} {b : Mn} {o : Expr} {x : IE} {xs : List IE} {apos : Pos} (hne : es ≠ []) (hbase : baseB o = true) (hl : es.length < 29) (hline : (apos.endLine == pos.line) = true) (hs : noStar es = true) (ho : JE Y X o (eE P x)) (ha : JA Y X es (eEs P xs)) :
    JE Y X (.Call (.Attribute o (mnName b) apos) es [] pos) (eE P (.mn m b x xs)) := by
  intro w tk
  cases es with
  | nil => exact absurd rfl hne
  | cons e0 es =>
    have hs0 := hs
    unfold noStar at hs
    rw [List.all_cons, Bool.and_eq_true] at hs
    refine PE.imp (pe_bm (mn_plain b) (mn_slot b) (mn_type b) (mt_mn (Y := Y) hK m b) (ho w tk) (ha w tk) (base_ok hbase) (few_ok hs0 hl) hline (star1 hs.1) (star_any hs.2)) fun σ H Q h => ?_
    obtain ⟨fg, ι, L, ρ, s, r, p⟩ := h
    simp only [eE] at p
    refine rd.one s r p fun u ι1 L1 H1 v e1 s1 r1 rv p1 => ?_
    by_cases hpre : mnPre b u L1 = true
    · rw [if_pos hpre] at p1
      refine ⟨mn_ty hK s1 rv hpre, rdA.one s1 r1 p1 fun us ι2 L2 H2 vs e2 s2 r2 rvs p2 => ?_⟩
      cases q1 : peek u L2 with
      | none => rw [q1] at p2; exact p2.elim
      | some d1 =>
      cases q2 : peeks us L2 with
      | none => rw [q1, q2] at p2; exact p2.elim
      | some ds =>
      rw [q1, q2] at p2
      simp only at p2
      cases q3 : mnO b d1 ds with
      | none => rw [q3] at p2; exact p2.elim
      | some d =>
        rw [q3] at p2
        exact ⟨fg, ι2, L2, d1, ds, d, s2, peek_ok s2 (rv.ext e2) q1, peeks_ok s2 rvs q2, q3, Pq.nwF p2⟩
    · rw [if_neg hpre] at p1
      exact p1.elim
theorem je_mn0 (P : Pr) (hK : Y.K = X.K) {m : Bool} {b : Mn} {o : Expr} {x : IE} {apos : Pos} (hbase : baseB o = true) (hline : (apos.endLine == pos.line) = true) (ho : JE Y X o (eE P x)) :
    JE Y X (.Call (.Attribute o (mnName b) apos) [] [] pos) (eE P (.mn m b x [])) := by
  intro w tk
  refine PE.imp (pe_bm0 (mn_plain b) (mn_slot b) (mn_type b) (mt_mn (Y := Y) hK m b) (ho w tk) (base_ok hbase) hline) fun σ H Q h => ?_
  obtain ⟨fg, ι, L, ρ, s, r, p⟩ := h
  simp only [eE, eEs] at p
  refine rd.one s r p fun u ι1 L1 H1 v e1 s1 r1 rv p1 => ?_
  by_cases hpre : mnPre b u L1 = true
  · rw [if_pos hpre] at p1
    refine ⟨mn_ty hK s1 rv hpre, ?_⟩
    simp only [R.bind] at p1
    cases q1 : peek u L1 with
    | none => rw [q1] at p1; exact p1.elim
    | some d1 =>
    rw [q1] at p1
    simp only [peeks] at p1
    cases q3 : mnO b d1 [] with
    | none => rw [q3] at p1; exact p1.elim
    | some d =>
      rw [q3] at p1
      exact ⟨fg, ι1, L1, d1, [], d, s1, peek_ok s1 rv q1, .nil, q3, Pq.nwF p1⟩
  · rw [if_neg hpre] at p1
    exact p1.elim
def JK (Y : Lay) (X : Cx) (kws : List Keyword) (m : Env → List Obj → R (List W)) : Prop := ∀ w, Takes X w → L2.PK X kws (rdA Y m w)
theorem PKw.imp {kws : List Keyword} {t t' : TA} (h : L2.PK X kws t) (k : ∀ σ H Q, t' σ H Q → t σ H Q) : L2.PK X kws t' := ⟨fun p pins s σ H Q I q => h.run p pins s σ H Q I (k _ _ _ q)⟩
end
end EV

set_option maxRecDepth 100000
set_option maxHeartbeats 4000000
namespace EV
open PySem L2 PyProof.Rows
section
variable {Y : Lay} {X : Cx} {pos : Pos} {a b c e : Expr} {es : List Expr}
/-- one's own object is written -/
theorem Sim.write {fg : Addr → Prop} {ι : List Addr} {L : List Obj} {H : Hp} {n : Nat} {p : Addr} {o o' : Obj} {u : HO} (s : Sim Y fg ι L H) (hp : ι[n]? = some p) (ho : L[n]? = some o) (hl : live o = true) (hl' : live o' = true)
    (hn : ∀ {L' H'}, Ext fg ι L H ι L' H' → H' p = some u → RO Y fg ι L' H' o' p) : Ext fg ι L H ι (L.set n o') (upd H p u) ∧ Sim Y fg ι (L.set n o') (upd H p u) := by
  have hlt : n < L.length := (List.getElem?_eq_some_iff.mp ho).1
  have hav : av fg ι L p := .inr ⟨n, o, hp, ho, hl⟩
  have sub : ∀ q, av fg ι (L.set n o') q → av fg ι L q := by
    rintro q (h | ⟨m, x, h1, h2, h3⟩)
    · exact .inl h
    · by_cases hm : n = m
      · subst hm
        rw [hp] at h1; cases h1
        exact hav
      · rw [List.getElem?_set_ne hm] at h2
        exact .inr ⟨m, x, h1, h2, h3⟩
  have ee : Ext fg ι L H ι (L.set n o') (upd H p u) := by
    refine ⟨⟨[], by simp⟩, fun q v h k => ?_, fun q h => .inl (sub q h), fun _ h => .inl h, fun q v h k => ?_⟩
    · have hq : q ≠ p := fun z => k (by rw [z]; exact hav)
      rw [upd_ne hq]; exact h
    · have hq : q ≠ p := fun z => k (by rw [z]; exact List.mem_of_getElem? hp)
      rw [upd_ne hq]; exact h
  have dm : ∀ q, H q ≠ none → upd H p u q ≠ none := fun q h z => by
    by_cases hq : q = p
    · subst hq
      rw [upd_same] at z; cases z
    · rw [upd_ne hq] at z; exact h z
  refine ⟨ee, by rw [List.length_set]; exact s.len, s.nd, fun m q x h1 h2 => ?_, fun q h => dm q (s.fgn q h), s.fgi, fun q h => dm q (s.dom q h)⟩
  by_cases hm : n = m
  · subst hm
    rw [hp] at h1; cases h1
    rw [List.getElem?_set_self hlt] at h2; cases h2
    exact hn ee upd_same
  · rw [List.getElem?_set_ne hm] at h2
    have hq : q ≠ p := fun z => hm (by
      subst z
      obtain ⟨l1, e1⟩ := List.getElem?_eq_some_iff.mp h1
      obtain ⟨l2, e2⟩ := List.getElem?_eq_some_iff.mp hp
      exact (List.getElem_inj s.nd).mp (e2.trans e1.symm))
    have ro := s.obj m q x h1 h2
    cases x with
    | lst xs =>
      obtain ⟨vs, k, r⟩ := ro
      exact ⟨vs, by rw [upd_ne hq]; exact k, r.grow ee.grow⟩
    | dct xs =>
      obtain ⟨vs, k, r⟩ := ro
      exact ⟨vs, by rw [upd_ne hq]; exact k, r.grow ee.grow⟩
    | ins c xs =>
      obtain ⟨C, dx, gs, q1, q2, r⟩ := ro
      exact ⟨C, dx, gs, q1, by rw [upd_ne hq]; exact q2, r.ext ee⟩
    | frz d => exact RD.grow ee.grow ro
theorem lstAt_ok {fg : Addr → Prop} {ι : List Addr} {L : List Obj} {H : Hp} {w : W} {v : V} {n : Nat} {xs : List D} (s : Sim Y fg ι L H) (r : RW Y fg ι L H w v) (e : lstAt w L = some (n, xs)) :
    ∃ p vs, w = .loc n ∧ v = .ref p ∧ ι[n]? = some p ∧ L[n]? = some (.lst xs) ∧ H p = some (.lst vs) ∧ RDs Y (av fg ι L) H xs vs := by
  cases w with
  | d x => cases e
  | loc m =>
    obtain ⟨p, rfl, hp⟩ := r
    simp only [lstAt] at e
    cases q : L[m]? with
    | none => rw [q] at e; cases e
    | some o =>
      rw [q] at e
      cases o with
      | lst ys =>
        cases e
        obtain ⟨vs, h1, h2⟩ := s.obj n p _ hp q
        exact ⟨p, vs, rfl, rfl, hp, q, h1, h2⟩
      | _ => cases e
theorem je_app (P : Pr) {o : Expr} {x y : IE} {apos : Pos} (hbase : baseB o = true) (hline : (apos.endLine == pos.line) = true) (hs : noStar1 e = true) (ho : JE Y X o (eE P x)) (ha : JE Y X e (eE P y)) :
    JE Y X (.Call (.Attribute o "append" apos) [e] [] pos) (eE P (.app x y)) := by
  intro w tk
  have hs0 : noStar [e] = true := by unfold noStar; rw [List.all_cons, hs]; rfl
  refine PE.imp (pe_bm PySem.F.plainAttrs_list PySem.F.slot_list_append PySem.F.type_list_append mt_append (ho w tk) (pa_cons (ha w tk) pa_nil (star1 hs)) (base_ok hbase) (few_ok hs0 (by show 1 < 29; decide)) hline (star1 hs) (star_any (by rfl))) fun σ H Q h => ?_
  obtain ⟨fg, ι, L, ρ, s, r, p⟩ := h
  simp only [eE] at p
  refine rd.one s r p fun u ι1 L1 H1 v e1 s1 r1 rv p1 => ?_
  cases q1 : lstAt u L1 with
  | none => rw [q1] at p1; exact p1.elim
  | some y1 =>
  obtain ⟨n1, xs1⟩ := y1
  rw [q1] at p1
  obtain ⟨pa, vs1, rfl, rfl, k1, k2, k3, k4⟩ := lstAt_ok s1 rv q1
  refine ⟨.inl ⟨rfl, vs1, .inl (.inl k3)⟩, rd.one s1 r1 p1 fun u2 ι2 L2 H2 v2 e2 s2 r2 rv2 p2 => ?_⟩
  cases q2 : asD u2 L2 with
  | none => rw [q2] at p2; exact p2.elim
  | some y2 =>
  obtain ⟨d, L3⟩ := y2
  rw [q2] at p2
  simp only at p2
  obtain ⟨x3, s3, rd3⟩ := asD_ok s2 rv2 q2
  cases q3 : lstAt (.loc n1) L3 with
  | none => rw [q3] at p2; exact p2.elim
  | some y3 =>
  obtain ⟨n3, xs3⟩ := y3
  rw [q3] at p2
  simp only at p2
  by_cases hz : xs3.length < SZ
  case neg => rw [if_neg hz] at p2; exact p2.elim
  rw [if_pos hz] at p2
  obtain ⟨pb, vs3, hw, hv, m1, m2, m3, m4⟩ := lstAt_ok s3 ((rv.ext e2).ext x3) q3
  cases hw
  cases hv
  refine ⟨pa, vs3, v2, rfl, rfl, m3, by rw [m4.length, ← sz_eq]; exact hz, ?_⟩
  obtain ⟨x4, s4⟩ := s3.write (o' := .lst (xs3 ++ [d])) (u := .lst (vs3 ++ [v2])) m1 m2 rfl rfl fun {L' H'} e q => ⟨_, q, (m4.append (.cons rd3 .nil)).grow e.grow⟩
  exact p2 _ _ (x3.trans x4) s4 .non .non

theorem je_ext (P : Pr) {o : Expr} {x y : IE} {apos : Pos} (hbase : baseB o = true) (hline : (apos.endLine == pos.line) = true) (hs : noStar1 e = true) (ho : JE Y X o (eE P x)) (ha : JE Y X e (eE P y)) :
    JE Y X (.Call (.Attribute o "extend" apos) [e] [] pos) (eE P (.ext x y)) := by
  intro w tk
  have hs0 : noStar [e] = true := by unfold noStar; rw [List.all_cons, hs]; rfl
  refine PE.imp (pe_bm PySem.F.plainAttrs_list PySem.F.slot_list_extend PySem.F.type_list_extend mt_extend (ho w tk) (pa_cons (ha w tk) pa_nil (star1 hs)) (base_ok hbase) (few_ok hs0 (by show 1 < 29; decide)) hline (star1 hs) (star_any (by rfl))) fun σ H Q h => ?_
  obtain ⟨fg, ι, L, ρ, s, r, p⟩ := h
  simp only [eE] at p
  refine rd.one s r p fun u ι1 L1 H1 v e1 s1 r1 rv p1 => ?_
  cases q1 : lstAt u L1 with
  | none => rw [q1] at p1; exact p1.elim
  | some y1 =>
  obtain ⟨n1, xs1⟩ := y1
  rw [q1] at p1
  obtain ⟨pa, vs1, rfl, rfl, k1, k2, k3, k4⟩ := lstAt_ok s1 rv q1
  refine ⟨.inl ⟨rfl, vs1, .inl (.inl k3)⟩, rd.one s1 r1 p1 fun u2 ι2 L2 H2 v2 e2 s2 r2 rv2 p2 => ?_⟩
  cases q2 : asD u2 L2 with
  | none => rw [q2] at p2; exact p2.elim
  | some y2 =>
  obtain ⟨d, L3⟩ := y2
  rw [q2] at p2
  obtain ⟨x3, s3, rd3⟩ := asD_ok s2 rv2 q2
  cases d with
  | lst ds =>
    simp only at p2
    cases q3 : lstAt (.loc n1) L3 with
    | none => rw [q3] at p2; exact p2.elim
    | some y3 =>
    obtain ⟨n3, xs3⟩ := y3
    rw [q3] at p2
    simp only at p2
    by_cases hz : xs3.length + ds.length ≤ SZ
    case neg => rw [if_neg hz] at p2; exact p2.elim
    rw [if_pos hz] at p2
    obtain ⟨pb, vs3, hw, hv, m1, m2, m3, m4⟩ := lstAt_ok s3 ((rv.ext e2).ext x3) q3
    cases hw
    cases hv
    cases rd3 with
    | lst h3 r3 =>
      refine ⟨pa, _, vs3, _, rfl, rfl, m3, h3.1, by rw [m4.length, r3.length, ← sz_eq]; exact hz, ?_⟩
      obtain ⟨x4, s4⟩ := s3.write (o' := .lst (xs3 ++ ds)) (u := .lst (vs3 ++ _)) m1 m2 rfl rfl fun {L' H'} e q => ⟨_, q, (m4.append r3).grow e.grow⟩
      exact p2 _ _ (x3.trans x4) s4 .non .non
  | _ => exact p2.elim

theorem wipe_get (σ : L2.St) : ∀ (vs : List Nat) (j : Nat), (_root_.L2.wipe σ vs)[j]? = if j ∈ vs then (σ[j]?).map (fun _ => none) else σ[j]?
  | [], j => by simp [_root_.L2.wipe]
  | v :: vs, j => by
    unfold _root_.L2.wipe
    rw [List.getElem?_set]
    have ih := wipe_get σ vs j
    have hl := wipe_length σ vs
    by_cases hj : v = j
    · subst hj
      simp only [if_true, List.mem_cons, true_or]
      by_cases hv : v < σ.length
      · rw [if_pos (by rw [hl]; exact hv), List.getElem?_eq_getElem hv]; rfl
      · rw [if_neg (by rw [hl]; exact hv), List.getElem?_eq_none (by omega)]; rfl
    · rw [if_neg hj, ih]
      have : (j ∈ v :: vs) ↔ j ∈ vs := by
        rw [List.mem_cons]
        exact ⟨fun h => h.elim (fun z => absurd z.symm hj) id, .inr⟩
      simp only [this]
theorem wipe_set {σ : L2.St} {i : Nat} {x : Option V} {vs : List Nat} (h : i ∈ vs) : _root_.L2.wipe (σ.set i x) vs = _root_.L2.wipe σ vs := by
  apply List.ext_getElem?
  intro j
  rw [wipe_get, wipe_get]
  by_cases hj : j ∈ vs
  · rw [if_pos hj, if_pos hj, List.getElem?_set]
    by_cases hij : i = j
    · subst hij
      by_cases hl : i < σ.length
      · simp [hl]
      · rw [List.getElem?_eq_none (by omega)]; simp [hl]
    · rw [if_neg hij]
  · rw [if_neg hj, if_neg hj, List.getElem?_set_ne]
    exact fun z => hj (z ▸ h)
/-- a target's reading -/
def rdG2 (Y : Lay) (m : W → Env → List Obj → Option Env) (sl : List Nat) : TG := fun v σ H Q => ∃ fg ι L ρ d, Sim Y fg ι L H ∧ RSl Y fg ι L H ρ σ ∧ RW Y fg ι L H d v ∧
  ∃ ρ', m d ρ L = some ρ' ∧ ∀ σ', RSl Y fg ι L H ρ' σ' → (∀ vs, (∀ i ∈ sl, i ∈ vs) → _root_.L2.wipe σ' vs = _root_.L2.wipe σ vs) → Q σ' H
def rdGs (Y : Lay) (m : List D → Env → List Obj → Option Env) (sl : List Nat) : TGs := fun vs σ H Q => ∃ fg ι L ρ ds, Sim Y fg ι L H ∧ RSl Y fg ι L H ρ σ ∧ RDs Y (av fg ι L) H ds vs ∧
  ∃ ρ', m ds ρ L = some ρ' ∧ ∀ σ', RSl Y fg ι L H ρ' σ' → (∀ vs, (∀ i ∈ sl, i ∈ vs) → _root_.L2.wipe σ' vs = _root_.L2.wipe σ vs) → Q σ' H
theorem PGs.imp {t t' : TGs} (h : PGs X es t) (k : ∀ v σ H Q, t' v σ H Q → t v σ H Q) : PGs X es t' := ⟨fun pins s σ H v u Q I r q => h.run pins s σ H v u Q I r (k _ _ _ _ q)⟩
theorem jg_nm {i : Nat} {x : Str} (hN : X.N.Nodup) (hi : X.N[i]? = some x) (hx : Loc X.env.scope x) (hf : X.fn x = true ∨ X.env.scope.names.lookup x = some .local) : PG X (.Name x pos) (rdG2 Y (asg (.nm i)) [i]) := by
  refine PG.imp (pg_name hN hi hx hf) fun v σ H Q h => ?_
  obtain ⟨fg, ι, L, ρ, d, s, r, rv, ρ', e, k⟩ := h
  simp only [asg, Option.some.injEq] at e
  subst e
  exact k _ (r.set i rv) fun vs h => wipe_set (h i (by simp))
theorem jg_nil : PGs X [] (rdGs Y (asgs []) []) := by
  refine PGs.imp pgs_nil fun v σ H Q h => ?_
  obtain ⟨fg, ι, L, ρ, ds, s, r, rv, ρ', e, k⟩ := h
  cases rv with
  | nil =>
    simp only [asgs, Option.some.injEq] at e
    subst e
    exact ⟨rfl, k σ r fun _ _ => rfl⟩
  | cons _ _ => simp [asgs] at e
theorem jg_cons {t : Tg} {ts : List Tg} (h1 : PG X e (rdG2 Y (asg t) t.slots)) (h2 : PGs X es (rdGs Y (asgs ts) (slotss ts))) (hs : (assignEach (e :: es) X.env).map (·.2) = assign e X.env :: (assignEach es X.env).map (·.2)) : PGs X (e :: es) (rdGs Y (asgs (t :: ts)) (slotss (t :: ts))) := by
  refine PGs.imp (pgs_cons h1 h2 hs) fun v σ H Q h => ?_
  obtain ⟨fg, ι, L, ρ, ds, s, r, rv, ρ', e, k⟩ := h
  cases rv with
  | nil => simp [asgs] at e
  | cons r1 rs =>
    simp only [asgs, Option.bind_eq_some_iff] at e
    obtain ⟨ρ1, e1, e2⟩ := e
    refine ⟨_, _, rfl, fg, ι, L, ρ, .d _, s, r, r1, ρ1, e1, fun σ1 q1 w1 => ⟨fg, ι, L, ρ1, _, s, q1, rs, ρ', e2, fun σ2 q2 w2 => k σ2 q2 fun vs h => ?_⟩⟩
    rw [w2 vs fun i hi => h i (by rw [slotss]; exact List.mem_append_right _ hi), w1 vs fun i hi => h i (by rw [slotss]; exact List.mem_append_left _ hi)]
theorem asgs_len : ∀ {ts : List Tg} {ds : List D} {ρ ρ' : Env} {L : List Obj}, asgs ts ds ρ L = some ρ' → ds.length = ts.length
  | [], [], _, _, _, _ => rfl
  | [], _ :: _, _, _, _, e => by simp [asgs] at e
  | _ :: _, [], _, _, _, e => by simp [asgs] at e
  | t :: ts, d :: ds, ρ, ρ', L, e => by
    simp only [asgs, Option.bind_eq_some_iff] at e
    obtain ⟨ρ1, _, e2⟩ := e
    rw [List.length_cons, List.length_cons, asgs_len e2]
theorem jg_tup (hK : Y.K = X.K) (hc : X.calm = true) {ts : List Tg} {k : Nat} (h : PGs X es (rdGs Y (asgs ts) (slotss ts))) (hn : (assignEach es X.env).length = ts.length) (hst : (assignEach es X.env).findIdx? (·.1) = none) :
    PG X (.Tuple es k pos) (rdG2 Y (asg (.tup ts)) (slotss ts)) := by
  refine PG.imp (pg_tup hc h hn hst) fun v σ H Q h => ?_
  obtain ⟨fg, ι, L, ρ, d, s, r, rv, ρ', e, k⟩ := h
  simp only [asg] at e
  cases q : peek d L with
  | none => rw [q] at e; cases e
  | some x =>
    rw [q] at e
    cases x with
    | tup xs =>
      cases (show RD Y _ H _ _ from peek_ok s rv q) with
      | tup h1 r1 =>
        have h2 := h1.sq
        rw [hK] at h2
        exact ⟨_, _, rfl, h2, by rw [r1.length, asgs_len e], fg, ι, L, ρ, xs, s, r, r1, ρ', e, k⟩
    | _ => cases e
end
end EV

set_option maxRecDepth 100000
set_option maxHeartbeats 4000000
namespace EV
open PySem L2 PyProof.Rows
section
variable {Y : Lay} {X : Cx} {pos : Pos} {a b c e tg : Expr} {es : List Expr}
def iAny (K : PySem.W.Frag) (te : TE) : TI := fun σ H R => te σ H fun x H1 => (∃ a, x = .ref a ∧ (∃ xs, SqL K H1 a xs) ∧ R (Itl K a) H1) ∨ (∃ a, x = .ref a ∧ (∃ xs, SqT K H1 a xs) ∧ R (Itt K a) H1) ∨ (∃ z, x = .str z ∧ R (Its z) H1)
theorem pi_any {te : TE} (he : PE X e te) : PI X tg e (iAny X.K te) := by
  refine ⟨fun pins s σ H R I h => ?_⟩
  refine thn (he.run pins s σ H _ I h) fun v s1 ⟨x, H1, I1, r1, q1⟩ => ?_
  rcases q1 with ⟨a, e, ⟨xs, hq⟩, q⟩ | ⟨a, e, ⟨xs, hq⟩, q⟩ | ⟨z, e, q⟩
  · subst e
    cases r1
    obtain ⟨its, rv, p, hz⟩ := I1.list hq
    refine wpAny_pyIter_list p.isList ?_
    exact pi_one (tk := s1.toks) I1 _ (turn_list a _) ⟨_, Heap.get?_push_size _ rfl, rfl, rfl⟩ q
  · subst e
    cases r1
    obtain ⟨its, rv, p, hz⟩ := I1.tuple hq
    refine wpAny_pyIter_tuple (show s1.heap.IsTuple a its.toArray from p) ?_
    exact pi_one (tk := s1.toks) I1 _ (turn_tuple a _) ⟨_, Heap.get?_push_size _ rfl, rfl, rfl⟩ q
  · subst e
    obtain ⟨t, rfl⟩ := r1
    cases ha : z.cps.all (· < 128)
    · exact wpAny_pyIter_wide ha (pi_one (tk := s1.toks) I1 _ (turn_str _ z t "str_iterator" (.inr rfl)) ⟨_, Heap.get?_push_size _ rfl, rfl, rfl⟩ q)
    · exact wpAny_pyIter_ascii ha (pi_one (tk := s1.toks) I1 _ (turn_str _ z t "str_ascii_iterator" (.inl rfl)) ⟨_, Heap.get?_push_size _ rfl, rfl, rfl⟩ q)
theorem walked_lst {av : Addr → Prop} {H : Hp} {p : Addr} {vs : List V} {ds : List D} (h : SL Y.K av H p vs) (r : RDs Y av H ds vs) : Walked Y av H (Itl Y.K p) ds where
  go := fun av' H' g i hi => by
    have hv : i < vs.length := by rw [r.length]; exact hi
    exact ⟨vs, vs[i], (g.sl h).sq, by simp [hv]⟩
  yld := fun av' H' g _ i d x H2 hd hy => by
    obtain ⟨rfl, k⟩ := hy
    obtain ⟨v, hv, rv⟩ := r.get hd
    have := k vs (g.sl h).sq
    rw [hv] at this
    cases this
    exact ⟨.inl rfl, rv.grow g⟩
  stop := fun av' H' g i hi => ⟨vs, (g.sl h).sq, by rw [r.length]; exact hi⟩
theorem walked_tup {av : Addr → Prop} {H : Hp} {p : Addr} {vs : List V} {ds : List D} (h : ST Y.K av H p vs) (r : RDs Y av H ds vs) : Walked Y av H (Itt Y.K p) ds where
  go := fun av' H' g i hi => by
    have hv : i < vs.length := by rw [r.length]; exact hi
    exact ⟨vs, vs[i], (g.st h).sq, by simp [hv]⟩
  yld := fun av' H' g _ i d x H2 hd hy => by
    obtain ⟨rfl, k⟩ := hy
    obtain ⟨v, hv, rv⟩ := r.get hd
    have := k vs (g.st h).sq
    rw [hv] at this
    cases this
    exact ⟨.inl rfl, rv.grow g⟩
  stop := fun av' H' g i hi => ⟨vs, (g.st h).sq, by rw [r.length]; exact hi⟩
theorem walked_str {av : Addr → Prop} {H : Hp} (t : T) : Walked Y av H (Its (S t)) (t.map fun c => D.str [c]) where
  go := fun av' H' g i hi => by
    show i < t.toArray.size
    simpa using hi
  yld := fun av' H' g _ i d x H2 hd hy => by
    obtain ⟨rfl, c, hc, rfl⟩ := hy
    have hc' : t[i]? = some c := by simpa using hc
    rw [List.getElem?_map, hc'] at hd
    simp only [Option.map_some, Option.some.injEq] at hd
    subst hd
    exact ⟨.inl rfl, .str [c]⟩
  stop := fun av' H' g i hi => by
    show t.toArray.size ≤ i
    simpa using hi
theorem walked_rng {av : Addr → Prop} {H : Hp} (lo : Int) (n : Nat) : Walked Y av H (Itr lo n) ((List.range n).map fun (k : Nat) => D.int (lo + (k : Int))) where
  go := fun av' H' g i hi => by
    show i < n
    simpa using hi
  yld := fun av' H' g _ i d x H2 hd hy => by
    obtain ⟨rfl, rfl⟩ := hy
    rw [List.getElem?_map] at hd
    by_cases hi : i < n
    · rw [List.getElem?_range hi] at hd
      simp only [Option.map_some, Option.some.injEq] at hd
      subst hd
      exact ⟨.inl rfl, .int _⟩
    · rw [List.getElem?_eq_none (by simpa using hi)] at hd
      cases hd
  stop := fun av' H' g i hi => by
    show n ≤ i
    simpa using hi
theorem ji_val (P : Pr) (hK : Y.K = X.K) {x : IE} (he : JE Y X e (eE P x)) : JI Y X tg e (eI P (.val x)) := by
  intro w tk
  refine PI.imp (pi_any (he w tk)) fun σ H Rr h => ?_
  obtain ⟨fg, ι, L, ρ, s, r, p⟩ := h
  simp only [eI] at p
  refine rd.one s r p fun u ι1 L1 H1 v e1 s1 r1 rv p1 => ?_
  unfold asD1 at p1
  cases q : asD u L1 with
  | none => rw [q] at p1; exact p1.elim
  | some y =>
    obtain ⟨d, L2⟩ := y
    rw [q] at p1
    simp only [R.bind] at p1
    obtain ⟨x2, s2, r2⟩ := asD_ok s1 rv q
    cases q2 : itemsO d with
    | none => rw [q2] at p1; exact p1.elim
    | some ds =>
      rw [q2] at p1
      have k := Pq.ok s2 (Pq.on x2 p1)
      cases d with
      | lst xs =>
        simp only [itemsO, Option.some.injEq] at q2
        subst q2
        cases r2 with
        | lst h2 r2 =>
          have h3 := h2.sq
          rw [hK] at h3
          have W := walked_lst h2 r2
          rw [hK] at W
          exact .inl ⟨_, rfl, ⟨_, h3⟩, k _ W⟩
      | tup xs =>
        simp only [itemsO, Option.some.injEq] at q2
        subst q2
        cases r2 with
        | tup h2 r2 =>
          have h3 := h2.sq
          rw [hK] at h3
          have W := walked_tup h2 r2
          rw [hK] at W
          exact .inr (.inl ⟨_, rfl, ⟨_, h3⟩, k _ W⟩)
      | str t =>
        simp only [itemsO, Option.some.injEq] at q2
        subst q2
        cases r2
        exact .inr (.inr ⟨_, rfl, k _ (walked_str t)⟩)
      | _ => simp [itemsO] at q2
theorem grow_new {av' : Addr → Prop} {H' : Hp} {t : Addr} {o : HO} (h : H' t = none) : Grow av' av' H' (upd H' t o) := ⟨fun a u q _ => by rw [upd_ne (ne_of_none q h)]; exact q, fun _ z => .inl z⟩
theorem pair_new {av' : Addr → Prop} {H' : Hp} {t : Addr} {d1 d2 : D} {x y : V} (h : H' t = none) (dm : ∀ a, av' a → H' a ≠ none) (r1 : RD Y av' H' d1 x) (r2 : RD Y av' H' d2 y) : RD Y av' (upd H' t (.tup [x, y])) (.tup [d1, d2]) (.ref t) :=
  .tup (.inl ⟨.inl upd_same, fun z => dm t z h⟩) (.cons (r1.grow (grow_new h)) (.cons (r2.grow (grow_new h)) .nil))
theorem walked_zipL {av : Addr → Prop} {H : Hp} {p q : Addr} {vs us : List V} {ds es : List D} (h : SL Y.K av H p vs) (r : RDs Y av H ds vs) (h2 : SL Y.K av H q us) (r2 : RDs Y av H es us) :
    Walked Y av H (Itz Y.K p q) (List.zipWith (fun x y => D.tup [x, y]) ds es) where
  go := fun av' H' g i hi => by
    have hl : i < vs.length ∧ i < us.length := by rw [List.length_zipWith] at hi; rw [r.length, r2.length]; omega
    exact ⟨vs, us, vs[i]'hl.1, us[i]'hl.2, (g.sl h).sq, (g.sl h2).sq, by simp [hl.1], by simp [hl.2]⟩
  yld := fun av' H' g dm i d x H2 hd hy => by
    obtain ⟨t, a, b, rfl, ht, rfl, k1, k2⟩ := hy
    rw [List.getElem?_zipWith] at hd
    cases e1 : ds[i]? with
    | none => rw [e1] at hd; cases hd
    | some d1 =>
    cases e2 : es[i]? with
    | none => rw [e1, e2] at hd; cases hd
    | some d2 =>
    rw [e1, e2] at hd
    cases hd
    obtain ⟨v1, q1, r1⟩ := r.get e1
    obtain ⟨v2, q2, r3⟩ := r2.get e2
    have z1 := k1 vs (g.sl h).sq
    have z2 := k2 us (g.sl h2).sq
    rw [q1] at z1; cases z1
    rw [q2] at z2; cases z2
    exact ⟨.inr ⟨t, _, ht, rfl⟩, pair_new ht dm (r1.grow g) (r3.grow g)⟩
  stop := fun av' H' g i hi => ⟨vs, us, (g.sl h).sq, (g.sl h2).sq, by rw [List.length_zipWith] at hi; rw [r.length, r2.length]; omega⟩
theorem walked_zipT {av : Addr → Prop} {H : Hp} {p q : Addr} {vs us : List V} {ds es : List D} (h : ST Y.K av H p vs) (r : RDs Y av H ds vs) (h2 : ST Y.K av H q us) (r2 : RDs Y av H es us) :
    Walked Y av H (RZ.ItzT Y.K p q) (List.zipWith (fun x y => D.tup [x, y]) ds es) where
  go := fun av' H' g i hi => by
    have hl : i < vs.length ∧ i < us.length := by rw [List.length_zipWith] at hi; rw [r.length, r2.length]; omega
    exact ⟨vs, us, vs[i]'hl.1, us[i]'hl.2, (g.st h).sq, (g.st h2).sq, by simp [hl.1], by simp [hl.2]⟩
  yld := fun av' H' g dm i d x H2 hd hy => by
    obtain ⟨t, a, b, rfl, ht, rfl, k1, k2⟩ := hy
    rw [List.getElem?_zipWith] at hd
    cases e1 : ds[i]? with
    | none => rw [e1] at hd; cases hd
    | some d1 =>
    cases e2 : es[i]? with
    | none => rw [e1, e2] at hd; cases hd
    | some d2 =>
    rw [e1, e2] at hd
    cases hd
    obtain ⟨v1, q1, r1⟩ := r.get e1
    obtain ⟨v2, q2, r3⟩ := r2.get e2
    have z1 := k1 vs (g.st h).sq
    have z2 := k2 us (g.st h2).sq
    rw [q1] at z1; cases z1
    rw [q2] at z2; cases z2
    exact ⟨.inr ⟨t, _, ht, rfl⟩, pair_new ht dm (r1.grow g) (r3.grow g)⟩
  stop := fun av' H' g i hi => ⟨vs, us, (g.st h).sq, (g.st h2).sq, by rw [List.length_zipWith] at hi; rw [r.length, r2.length]; omega⟩
theorem enumL_len : ∀ (n : Nat) (xs : List D), (enumL n xs).length = xs.length
  | _, [] => rfl
  | n, x :: xs => by simp [enumL, enumL_len (n + 1) xs]
theorem enumL_get : ∀ (n i : Nat) (xs : List D), (enumL n xs)[i]? = (xs[i]?).map fun x => D.tup [.int ((n + i : Nat) : Int), x]
  | _, _, [] => by simp [enumL]
  | n, 0, x :: xs => by simp [enumL]
  | n, i + 1, x :: xs => by
    rw [enumL, List.getElem?_cons_succ, List.getElem?_cons_succ, enumL_get (n + 1) i xs, show n + 1 + i = n + (i + 1) from by omega]
theorem walked_enum {av : Addr → Prop} {H : Hp} {p : Addr} {vs : List V} {ds : List D} (h : SL Y.K av H p vs) (r : RDs Y av H ds vs) : Walked Y av H (Ite Y.K p) (enumL 0 ds) where
  go := fun av' H' g i hi => by
    have hl : i < vs.length := by rw [enumL_len] at hi; rw [r.length]; exact hi
    exact ⟨vs, vs[i], (g.sl h).sq, by simp [hl]⟩
  yld := fun av' H' g dm i d x H2 hd hy => by
    obtain ⟨t, a, rfl, ht, rfl, k1⟩ := hy
    rw [enumL_get] at hd
    cases e1 : ds[i]? with
    | none => rw [e1] at hd; cases hd
    | some d1 =>
    rw [e1] at hd
    cases hd
    obtain ⟨v1, q1, r1⟩ := r.get e1
    have z1 := k1 vs (g.sl h).sq
    rw [q1] at z1; cases z1
    rw [Nat.zero_add]
    exact ⟨.inr ⟨t, _, ht, rfl⟩, pair_new ht dm (.int _) (r1.grow g)⟩
  stop := fun av' H' g i hi => ⟨vs, (g.sl h).sq, by rw [enumL_len] at hi; rw [r.length]; exact hi⟩
theorem asD1_bind {α : Type} {fg : Addr → Prop} {ι : List Addr} {L : List Obj} {H : Hp} {u : W} {v : V} {f : D → List Obj → R α} {k : α → List Addr → List Obj → Hp → Prop} {w : Wish} (s : Sim Y fg ι L H) (r : RW Y fg ι L H u v) (p : Pq Y fg ι L H ((asD1 u L).bind f) k w) :
    ∃ d L1, Ext fg ι L H ι L1 H ∧ Sim Y fg ι L1 H ∧ RD Y (EV.av fg ι L1) H d v ∧ Pq Y fg ι L1 H (f d L1) k w := by
  unfold asD1 at p
  cases q : asD u L with
  | none => rw [q] at p; exact p.elim
  | some y =>
    obtain ⟨d, L2⟩ := y
    rw [q] at p
    obtain ⟨x2, s2, r2⟩ := asD_ok s r q
    exact ⟨d, L2, x2, s2, r2, Pq.on x2 p⟩
theorem ji_enum (P : Pr) (hK : Y.K = X.K) {x : IE} {p tp : Pos} {elts : List Expr} {kk : Nat} (hg : Gl X "enumerate") (hm : X.mg "enumerate" = none) (hs : noStar1 e = true) (he : JE Y X e (eE P x)) : JI Y X (.Tuple elts kk tp) (.Call (.Name "enumerate" p) [e] [] pos) (eI P (.enum x)) := by
  intro w tk
  refine PI.imp (pi_enum hg hm (pa_cons (he w tk) pa_nil (star1 hs)) (by rw [star1 hs]; rfl)) fun σ H Rr h => ?_
  obtain ⟨fg, ι, L, ρ, s, r, p⟩ := h
  simp only [eI] at p
  refine rd.one s r p fun u ι1 L1 H1 v e1 s1 r1 rv p1 => ?_
  obtain ⟨d, L2, x2, s2, rd2, p2⟩ := asD1_bind s1 rv p1
  cases d with
  | lst xs =>
    cases rd2 with
    | lst h2 r2 =>
      have h3 := h2.sq
      have W := walked_enum h2 r2
      rw [hK] at h3 W
      exact ⟨_, _, rfl, h3, Pq.ok s2 p2 _ W⟩
  | _ => exact p2.elim
theorem ji_zip (P : Pr) (hK : Y.K = X.K) {x y : IE} {p tp : Pos} {elts : List Expr} {kk : Nat} (hg : Gl X "zip") (hm : X.mg "zip" = none) (hs : noStar1 a = true) (hs2 : noStar1 b = true) (ha : JE Y X a (eE P x)) (hb : JE Y X b (eE P y)) :
    JI Y X (.Tuple elts kk tp) (.Call (.Name "zip" p) [a, b] [] pos) (eI P (.zip x y)) := by
  intro w tk
  refine PI.imp (RZ.pi_zipA hg hm (pa_cons (ha w tk) (pa_cons (hb w tk) pa_nil (star1 hs2)) (star1 hs)) (star1 hs) (by rw [star1 hs2]; rfl)) fun σ H Rr h => ?_
  obtain ⟨fg, ι, L, ρ, s, r, p⟩ := h
  simp only [eI] at p
  refine rd.one s r p fun u ι1 L1 H1 v e1 s1 r1 rv p1 => rd.one s1 r1 p1 fun u2 ι2 L2 H2 v2 e2 s2 r2 rv2 p2 => ?_
  obtain ⟨d, L3, x3, s3, q3, p3⟩ := asD1_bind s2 (rv.ext e2) p2
  obtain ⟨d', L4, x4, s4, q4, p4⟩ := asD1_bind s3 (rv2.ext x3) p3
  have q3' := q3.grow x4.grow
  cases d with
  | lst xs =>
    cases d' with
    | lst ys =>
      cases q3' with
      | lst h1 r1 =>
        cases q4 with
        | lst h2 r2 =>
          have z1 := h1.sq
          have z2 := h2.sq
          have W := walked_zipL h1 r1 h2 r2
          rw [hK] at z1 z2 W
          exact ⟨_, _, _, _, rfl, .inl ⟨z1, z2, Pq.ok s4 p4 _ W⟩⟩
    | _ => exact p4.elim
  | tup xs =>
    cases d' with
    | tup ys =>
      cases q3' with
      | tup h1 r1 =>
        cases q4 with
        | tup h2 r2 =>
          have z1 := h1.sq
          have z2 := h2.sq
          have W := walked_zipT h1 r1 h2 r2
          rw [hK] at z1 z2 W
          exact ⟨_, _, _, _, rfl, .inr ⟨z1, z2, Pq.ok s4 p4 _ W⟩⟩
    | _ => exact p4.elim
  | _ => exact p4.elim
theorem range_ok {lo hi : Int} {ds : List D} (e : rangeO lo hi = some ds) : (-(2 ^ 62) ≤ lo ∧ lo < 2 ^ 62 ∧ -(2 ^ 62) ≤ hi ∧ hi < 2 ^ 62) ∧ ds = (List.range (hi - lo).toNat).map fun (k : Nat) => D.int (lo + (k : Int)) := by
  unfold rangeO at e
  split at e
  case isFalse => cases e
  case isTrue h =>
    rw [decide_eq_true_eq] at h
    exact ⟨h, (Option.some.inj e).symm⟩
theorem ji_rng1 (P : Pr) {x : IE} {p : Pos} (hg : Gl X "range") (hm : X.mg "range" = none) (hs : noStar1 e = true) (he : JE Y X e (eE P x)) : JI Y X tg (.Call (.Name "range" p) [e] [] pos) (eI P (.rng1 x)) := by
  intro w tk
  refine PI.imp (pi_range1 hg hm (pa_cons (he w tk) pa_nil (star1 hs)) (by rw [star1 hs]; rfl)) fun σ H Rr h => ?_
  obtain ⟨fg, ι, L, ρ, s, r, p⟩ := h
  simp only [eI] at p
  refine rd.one s r p fun u ι1 L1 H1 v e1 s1 r1 rv p1 => ?_
  cases u with
  | loc n => exact p1.elim
  | d d =>
    cases d with
    | int j =>
      cases (show RD Y _ _ (.int j) v from rv)
      simp only at p1
      cases q : rangeO 0 j with
      | none => rw [q] at p1; exact p1.elim
      | some ds =>
        rw [q] at p1
        obtain ⟨⟨b1, b2, b3, b4⟩, rfl⟩ := range_ok q
        refine ⟨j, rfl, b3, b4, Pq.ok s1 p1 _ ?_⟩
        have := walked_rng (Y := Y) (av := EV.av fg ι1 L1) (H := H1) 0 j.toNat
        rw [Int.sub_zero]
        exact this
    | _ => exact p1.elim
theorem ji_rng2 (P : Pr) {x y : IE} {p : Pos} (hg : Gl X "range") (hm : X.mg "range" = none) (hs : noStar1 a = true) (hs2 : noStar1 b = true) (ha : JE Y X a (eE P x)) (hb : JE Y X b (eE P y)) : JI Y X tg (.Call (.Name "range" p) [a, b] [] pos) (eI P (.rng2 x y)) := by
  intro w tk
  refine PI.imp (pi_range2 hg hm (pa_cons (ha w tk) (pa_cons (hb w tk) pa_nil (star1 hs2)) (star1 hs)) (by rw [star1 hs, star1 hs2]; rfl) (by rw [star1 hs2]; rfl)) fun σ H Rr h => ?_
  obtain ⟨fg, ι, L, ρ, s, r, p⟩ := h
  simp only [eI] at p
  refine rd.one s r p fun u ι1 L1 H1 v e1 s1 r1 rv p1 => rd.one s1 r1 p1 fun u2 ι2 L2 H2 v2 e2 s2 r2 rv2 p2 => ?_
  cases u with
  | loc n => exact p2.elim
  | d d =>
    cases d with
    | int i =>
      cases u2 with
      | loc n => exact p2.elim
      | d d2 =>
        cases d2 with
        | int j =>
          cases (show RD Y _ _ (.int i) v from rv)
          cases (show RD Y _ _ (.int j) v2 from rv2)
          simp only at p2
          cases q : rangeO i j with
          | none => rw [q] at p2; exact p2.elim
          | some ds =>
            rw [q] at p2
            obtain ⟨⟨b1, b2, b3, b4⟩, rfl⟩ := range_ok q
            exact ⟨i, j, rfl, ⟨b1, b2, b3, b4⟩, Pq.ok s2 p2 _ (walked_rng i _)⟩
        | _ => exact p2.elim
    | _ => exact p2.elim
end
end EV

set_option maxRecDepth 100000
set_option maxHeartbeats 4000000
namespace EV
open PySem L2 PyProof.Rows
section
variable {Y : Lay} {fg fg' : Addr → Prop} {ι ι1 ι2 : List Addr} {L La Lb : List Obj} {H H1 H2 : Hp}
theorem RW.move (hp : ∃ t, ι1 = ι ++ t) (g : Grow (av fg ι L) (av fg' ι1 La) H H1) : ∀ {w : W} {v : V}, RW Y fg ι L H w v → RW Y fg' ι1 La H1 w v
  | .d _, _, r => RD.grow g r
  | .loc _, _, ⟨a, h, q⟩ => by
    obtain ⟨t, rfl⟩ := hp
    exact ⟨a, h, by rw [List.getElem?_append_left ((List.getElem?_eq_some_iff.mp q).1)]; exact q⟩
theorem RSl.move {ρ : Env} {σ : L2.St} (hp : ∃ t, ι1 = ι ++ t) (g : Grow (av fg ι L) (av fg' ι1 La) H H1) (r : RSl Y fg ι L H ρ σ) : RSl Y fg' ι1 La H1 ρ σ :=
  ⟨r.len, fun i w h => let ⟨v, a, b⟩ := r.get i w h; ⟨v, a, b.move hp g⟩⟩
theorem RWf.move (hp : ∃ t, ι1 = ι ++ t) (g : Grow (av fg ι L) (av fg' ι1 La) H H1) : ∀ {w : List (Nat × W)} {v : List (Str × V)}, RWf Y fg ι L H w v → RWf Y fg' ι1 La H1 w v
  | _, _, .nil => .nil
  | _, _, .cons r rs => .cons (r.move hp g) (RWf.move hp g rs)
theorem RO.shift (hp : ∃ t, ι1 = ι ++ t) (g : Grow (av fg ι L) (av fg' ι1 La) H H1) {o : Obj} {a : Addr} (hs : ∀ u, H a = some u → H1 a = some u) (h : RO Y fg ι L H o a) : RO Y fg' ι1 La H1 o a := by
  cases o with
  | lst xs =>
    obtain ⟨vs, q, r⟩ := h
    exact ⟨vs, hs _ q, r.grow g⟩
  | dct xs =>
    obtain ⟨vs, q, r⟩ := h
    exact ⟨vs, hs _ q, r.grow g⟩
  | ins c fs =>
    obtain ⟨C, dx, gs, q1, q2, r⟩ := h
    exact ⟨C, dx, gs, q1, hs _ q2, r.move hp g⟩
  | frz d => exact RD.grow g h
theorem pre0 : ∃ t, ι = ι ++ t := ⟨[], by simp⟩
/-- as Ext, but the object at D, which is foreign, may change -/
structure ExtD (fg : Addr → Prop) (D : Addr) (ι : List Addr) (L : List Obj) (H : Hp) (ι' : List Addr) (L' : List Obj) (H' : Hp) : Prop where
  pre : ∃ t, ι' = ι ++ t
  keep : ∀ a o, H a = some o → ¬ av fg ι L a → H' a = some o
  new : ∀ a, av fg ι' L' a → av fg ι L a ∨ H a = none
  newi : ∀ a ∈ ι', a ∈ ι ∨ H a = none
  frm : ∀ a o, H a = some o → a ∉ ι → a ≠ D → H' a = some o
theorem ExtD.refl {D : Addr} : ExtD fg D ι L H ι L H := ⟨⟨[], by simp⟩, fun _ _ h _ => h, fun _ h => .inl h, fun _ h => .inl h, fun _ _ h _ _ => h⟩
theorem ExtD.ext {D : Addr} (hD : H1 D ≠ none) (e : ExtD fg D ι L H ι1 La H1) (f : Ext fg ι1 La H1 ι2 Lb H2) : ExtD fg D ι L H ι2 Lb H2 := by
  obtain ⟨t, rfl⟩ := e.pre
  obtain ⟨u, rfl⟩ := f.pre
  refine ⟨⟨t ++ u, by simp⟩, fun a o h n => ?_, fun a h => ?_, fun a h => ?_, fun a o h n nd => ?_⟩
  · exact f.keep a o (e.keep a o h n) fun z => (e.new a z).elim n (by rw [h]; exact fun z => by cases z)
  · rcases f.new a h with z | z
    · exact e.new a z
    · cases q : H a with
      | none => exact .inr rfl
      | some o =>
        by_cases n : av fg ι L a
        · exact .inl n
        · rw [e.keep a o q n] at z; cases z
  · rcases f.newi a h with z | z
    · exact e.newi a z
    · cases q : H a with
      | none => exact .inr rfl
      | some o =>
        by_cases n : a ∈ ι
        · exact .inl n
        · by_cases hd : a = D
          · subst hd
            exact absurd z hD
          · rw [e.frm a o q n hd] at z; cases z
  · refine f.frm a o (e.frm a o h n nd) fun z => ?_
    rcases e.newi a z with q | q
    · exact n q
    · rw [h] at q; cases q
theorem ExtD.poke {D : Addr} {o : HO} (hf : fg D) (e : ExtD fg D ι L H ι1 La H1) : ExtD fg D ι L H ι1 La (upd H1 D o) := by
  refine ⟨e.pre, fun a u h n => ?_, e.new, e.newi, fun a u h n nd => ?_⟩
  · rw [upd_ne fun z => n (.inl (by rw [z]; exact hf))]
    exact e.keep a u h n
  · rw [upd_ne nd]
    exact e.frm a u h n nd
theorem Sim.poke {D : Addr} {o : HO} (hf : fg D) (s : Sim Y fg ι L H) : Sim Y fg ι L (upd H D o) ∧ Grow (av fg ι L) (av fg ι L) H (upd H D o) := by
  have g : Grow (av fg ι L) (av fg ι L) H (upd H D o) := ⟨fun a u h n => by
    rw [upd_ne fun z => n (.inl (by rw [z]; exact hf))]; exact h, fun _ h => .inl h⟩
  have dm : ∀ a, H a ≠ none → upd H D o a ≠ none := fun a q z => by
    by_cases n : a = D
    · subst n
      rw [upd_same] at z; cases z
    · rw [upd_ne n] at z; exact q z
  refine ⟨⟨s.len, s.nd, fun n a x h1 h2 => RO.shift pre0 g (fun u q => ?_) (s.obj n a x h1 h2), fun a h => dm a (s.fgn a h), s.fgi, fun a h => dm a (s.dom a h)⟩, g⟩
  rw [upd_ne fun z => s.fgi a (List.mem_of_getElem? h1) (by rw [z]; exact hf)]
  exact q
/-- the world beside a new list that is made at D -/
theorem Sim.beside {D : Addr} {o : HO} (s : Sim Y fg ι L H) (hD : H D = none) : Sim Y (fun a => fg a ∨ a = D) ι L (upd H D o) ∧ Grow (av fg ι L) (av (fun a => fg a ∨ a = D) ι L) H (upd H D o) := by
  have nD : D ∉ ι := fun z => s.dom D z hD
  have g : Grow (av fg ι L) (av (fun a => fg a ∨ a = D) ι L) H (upd H D o) := ⟨fun a u h _ => by rw [upd_ne (ne_of_none h hD)]; exact h, fun a h => by
    rcases h with (h | h) | h
    · exact .inl (.inl h)
    · subst h; exact .inr hD
    · exact .inl (.inr h)⟩
  have dm : ∀ a, H a ≠ none → upd H D o a ≠ none := fun a q z => by
    by_cases n : a = D
    · subst n
      rw [upd_same] at z; cases z
    · rw [upd_ne n] at z; exact q z
  refine ⟨⟨s.len, s.nd, fun n a x h1 h2 => RO.shift pre0 g (fun u q => by rw [upd_ne (ne_of_none q hD)]; exact q) (s.obj n a x h1 h2), fun a h => ?_, fun a h z => ?_, fun a h => dm a (s.dom a h)⟩, g⟩
  · rcases h with h | h
    · exact dm a (s.fgn a h)
    · subst h
      rw [upd_same]; exact fun z => by cases z
  · rcases z with z | z
    · exact s.fgi a h z
    · subst z; exact nD h
end
section
variable {Y : Lay} {fg : Addr → Prop} {ι ι1 : List Addr} {L La : List Obj} {H H1 : Hp}
theorem adopt_ok {D : Addr} {o : HO} {vs : List V} {rs : List EV.D} {m : Bool} {Q : VK} {w : Wish} (s : Sim Y fg ι L H) (hD : H D = none) (e : ExtD (fun a => fg a ∨ a = D) D ι L (upd H D o) ι1 La H1) (s1 : Sim Y (fun a => fg a ∨ a = D) ι1 La H1) (hv : H1 D = some (.lst vs))
    (r : RDs Y (av (fun a => fg a ∨ a = D) ι1 La) H1 rs vs) (p : Pq Y fg ι L H (fresh m (.lst rs) La) (fun w ι' L' H' => ∀ v, RW Y fg ι' L' H' w v → Q v H') w) : Q (.ref D) H1 := by
  have nD : D ∉ ι := fun z => s.dom D z hD
  have nD1 : D ∉ ι1 := fun z => s1.fgi D z (.inr rfl)
  have nf : ¬ fg D := fun z => s.fgn D z hD
  have dom0 : ∀ a u, H a = some u → upd H D o a = some u := fun a u h => by rw [upd_ne (ne_of_none h hD)]; exact h
  have none0 : ∀ a, upd H D o a = none → H a = none := fun a h => by
    cases q : H a with
    | none => rfl
    | some u => rw [dom0 a u q] at h; cases h
  have avn : ∀ a, av (fun a => fg a ∨ a = D) ι L a → av fg ι L a ∨ H a = none := fun a h => by
    rcases h with (h | h) | h
    · exact .inl (.inl h)
    · subst h; exact .inr hD
    · exact .inl (.inr h)
  have hnav : ¬ av fg ι1 La D := by
    rintro (z | ⟨n, x, h1, _⟩)
    · exact nf z
    · exact nD1 (List.mem_of_getElem? h1)
  have g : Grow (av (fun a => fg a ∨ a = D) ι1 La) (av fg ι1 La) H1 H1 := ⟨fun _ _ h _ => h, fun a h => .inl (h.imp .inl id)⟩
  have ee : Ext fg ι L H ι1 La H1 := by
    refine ⟨e.pre, fun a u h n => e.keep a u (dom0 a u h) ?_, fun a h => ?_, fun a h => ?_, fun a u h n => e.frm a u (dom0 a u h) n (ne_of_none h hD)⟩
    · rintro ((z | z) | z)
      · exact n (.inl z)
      · subst z; rw [hD] at h; cases h
      · exact n (.inr z)
    · rcases e.new a (h.imp .inl id) with z | z
      · exact avn a z
      · exact .inr (none0 a z)
    · rcases e.newi a h with z | z
      · exact .inl z
      · exact .inr (none0 a z)
  have ss : Sim Y fg ι1 La H1 := ⟨s1.len, s1.nd, fun n a x h1 h2 => RO.shift pre0 g (fun _ q => q) (s1.obj n a x h1 h2), fun a h => s1.fgn a (.inl h), fun a h z => s1.fgi a h (.inl z), s1.dom⟩
  have rr : RDs Y (av fg ι1 La) H1 rs vs := r.grow g
  cases m with
  | false => exact p ι1 H1 ee ss _ (.lst ⟨hv, hnav⟩ rr)
  | true =>
    have look : ∀ (n : Nat) (a : Addr) (ob : Obj), (ι1 ++ [D])[n]? = some a → (La ++ [Obj.lst rs])[n]? = some ob → (ι1[n]? = some a ∧ La[n]? = some ob) ∨ (a = D ∧ ob = .lst rs) := by
      intro n a ob h1 h2
      have hlen := s1.len
      by_cases hn : n < ι1.length
      · rw [List.getElem?_append_left hn] at h1
        rw [List.getElem?_append_left (by omega)] at h2
        exact .inl ⟨h1, h2⟩
      · have hn2 : n = ι1.length := by
          have := (List.getElem?_eq_some_iff.mp h1).1
          simp at this
          omega
        subst hn2
        rw [List.get_app] at h1
        rw [hlen, List.get_app] at h2
        cases h1; cases h2
        exact .inr ⟨rfl, rfl⟩
    obtain ⟨t, ht⟩ := ee.pre
    have sub : ∀ a, av fg (ι1 ++ [D]) (La ++ [Obj.lst rs]) a → av fg ι1 La a ∨ a = D := fun a h => by
      rcases h with h | ⟨n, x, h1, h2, h3⟩
      · exact .inl (.inl h)
      · rcases look n a x h1 h2 with ⟨k1, k2⟩ | ⟨k1, k2⟩
        · exact .inl (.inr ⟨n, x, k1, k2, h3⟩)
        · exact .inr k1
    have g2 : Grow (av (fun a => fg a ∨ a = D) ι1 La) (av fg (ι1 ++ [D]) (La ++ [Obj.lst rs])) H1 H1 := ⟨fun _ _ h _ => h, fun a h => .inl (by
      rcases sub a h with h | h
      · exact h.imp .inl id
      · exact .inl (.inr h))⟩
    have hlen := s1.len
    have e2 : Ext fg ι L H (ι1 ++ [D]) (La ++ [Obj.lst rs]) H1 := by
      refine ⟨⟨t ++ [D], by rw [ht]; simp⟩, ee.keep, fun a h => ?_, fun a h => ?_, ee.frm⟩
      · rcases sub a h with h | h
        · exact ee.new a h
        · subst h; exact .inr hD
      · rcases List.mem_append.mp h with h | h
        · exact ee.newi a h
        · rw [List.mem_singleton.mp h]; exact .inr hD
    have s2 : Sim Y fg (ι1 ++ [D]) (La ++ [Obj.lst rs]) H1 := by
      refine ⟨by simp [hlen], List.nodup_append.mpr ⟨s1.nd, by simp, fun a ha b hb => ?_⟩, fun n a x h1 h2 => ?_, ss.fgn, fun a h => ?_, fun a h => ?_⟩
      · rw [List.mem_singleton.mp hb]
        exact fun q => nD1 (q ▸ ha)
      · rcases look n a x h1 h2 with ⟨k1, k2⟩ | ⟨k1, k2⟩
        · exact RO.shift ⟨[D], rfl⟩ g2 (fun _ q => q) (s1.obj n a x k1 k2)
        · subst k1; subst k2
          exact ⟨vs, hv, r.grow g2⟩
      · rcases List.mem_append.mp h with h | h
        · exact ss.fgi a h
        · rw [List.mem_singleton.mp h]; exact nf
      · rcases List.mem_append.mp h with h | h
        · exact ss.dom a h
        · rw [List.mem_singleton.mp h, hv]; exact fun q => by cases q
    refine p _ H1 e2 s2 _ ⟨D, rfl, ?_⟩
    show (ι1 ++ [D])[La.length]? = some D
    rw [← hlen, List.get_app]
end
section
variable {Y : Lay} {X : Cx} {pos : Pos}
def JTs (Y : Lay) (X : Cx) (ifs : List Expr) (m : Env → List Obj → R Bool) : Prop := ∀ w, Takes X w → PTs X ifs (rdT Y m w)
theorem jts_nil (P : Pr) : JTs Y X [] (eTs P []) := fun w tk => ⟨fun pins s σ H Q I h => by
  obtain ⟨fg, ι, L, ρ, s1, r, p⟩ := h
  exact pts_nil.run pins s σ H Q I (Pq.ok s1 p)⟩
theorem jts_one (P : Pr) {c : Expr} {x : IE} (h : JT Y X c (fun ρ L => (eE P x ρ L).bind truthR)) : JTs Y X [c] (eTs P [x]) := fun w tk => ⟨fun pins s σ H Q I q => by
  refine (pts_one (h w tk)).run pins s σ H Q I ?_
  obtain ⟨fg, ι, L, ρ, s1, r, p⟩ := q
  refine ⟨fg, ι, L, ρ, s1, r, ?_⟩
  have e : eTs P [x] ρ L = (eE P x ρ L).bind truthR := by
    simp only [eTs]
    cases eE P x ρ L with
    | ok u L1 =>
      show ((truthR u L1).bind fun c L => if c = true then R.ok true L else R.ok false L) = truthR u L1
      cases truthR u L1 with
      | ok b L2 => cases b <;> rfl
      | err _ _ => rfl
      | bad => rfl
    | err _ _ => rfl
    | bad => rfl
  rw [e] at p
  exact p⟩
def w0 : WX := fun _ _ _ _ => False
theorem compLoop_cons {step : D → List Obj → R (Option D)} {x : D} {xs : List D} {L Lf : List Obj} {rs : List D} (h : compLoop step (x :: xs) L = .ok rs Lf) :
    ∃ o L1 r, step x L = .ok o L1 ∧ compLoop step xs L1 = .ok r Lf ∧ rs = (match o with | some d => d :: r | none => r) := by
  simp only [compLoop] at h
  cases q : step x L with
  | ok o L1 =>
    rw [q] at h
    simp only [R.bind] at h
    cases q2 : compLoop step xs L1 with
    | ok r L2 =>
      rw [q2] at h
      simp only [R.bind, R.ok.injEq] at h
      obtain ⟨h1, h2⟩ := h
      subst h2
      exact ⟨o, L1, r, rfl, q2, h1.symm⟩
    | err _ _ => rw [q2] at h; cases h
    | bad => rw [q2] at h; cases h
  | err _ _ => rw [q] at h; cases h
  | bad => rw [q] at h; cases h
theorem wipe_wipe (σ : L2.St) (vs : List Nat) : _root_.L2.wipe (_root_.L2.wipe σ vs) vs = _root_.L2.wipe σ vs := by
  apply List.ext_getElem?
  intro j
  rw [wipe_get, wipe_get]
  by_cases hj : j ∈ vs
  · simp only [if_pos hj]
    cases σ[j]? <;> rfl
  · simp only [if_neg hj]
theorem comp_rd (P : Pr) {m : Bool} {vs0 : List Nat} {tg : Tg} {it : It} {ifs : List IE} {elt : IE} (hsl : ∀ i ∈ tg.slots, i ∈ vs0) {w : WX} {σ : L2.St} {H : Hp} {Q : VK} (h : rd Y (eE P (.comp m vs0 tg it ifs elt)) w σ H Q) :
    tLc (rdI Y (eI P it) w) (rdG2 Y (asg tg) tg.slots) (rdT Y (eTs P ifs) w0) (rd Y (eE P elt) w0) vs0 σ H Q := by
  obtain ⟨fg, ι, L, ρ, s, r, p⟩ := h
  simp only [eE] at p
  refine ⟨fg, ι, L, ρ, s, r, p.bind.mono (fun ds ι1 L1 H1 e1 s1 p1 J WJ => ?_) fun _ _ _ z => z⟩
  intro D hD
  by_cases hz : ds.length ≤ SZ
  case neg => rw [if_neg hz] at p1; exact p1.elim
  rw [if_pos hz] at p1
  generalize hst : (fun (x : EV.D) (L : List Obj) => match asg tg (.d x) (wipeE ρ vs0) L with
        | some ρ' => (eTs P ifs ρ' L).bind fun c L => if c = true then (eE P elt ρ' L).bind fun w L => (asD1 w L).bind fun d L => R.ok (some d) L else R.ok none L
        | none => R.bad) = step at p1
  cases hcl : compLoop step ds L1 with
  | err x Lf => rw [hcl] at p1; exact p1.elim
  | bad => rw [hcl] at p1; exact p1.elim
  | ok rs Lf =>
  rw [hcl] at p1
  simp only [R.calm, R.bind] at p1
  have r1 := r.ext e1
  obtain ⟨s2, g2⟩ := s1.beside (o := .lst []) hD
  have hDD : upd H1 D (.lst []) D = some (.lst []) := upd_same
  refine ⟨fun i mm H' => mm = ds.length - i ∧ i ≤ ds.length ∧ ∃ (ι' : List Addr) (L' : List Obj) (acc : List EV.D) (vs : List V) (rest : List EV.D), Sim Y (fun a => fg a ∨ a = D) ι' L' H' ∧ ExtD (fun a => fg a ∨ a = D) D ι1 L1 (upd H1 D (.lst [])) ι' L' H' ∧
    H' D = some (.lst vs) ∧ RDs Y (av (fun a => fg a ∨ a = D) ι' L') H' acc vs ∧ acc.length ≤ i ∧ compLoop step (ds.drop i) L' = .ok rest Lf ∧ acc ++ rest = rs,
    ⟨ds.length, by simp, Nat.zero_le _, ι1, L1, [], [], rs, s2, .refl, hDD, .nil, Nat.zero_le _, by rw [List.drop_zero]; exact hcl, rfl⟩, ?_⟩
  rintro i mm H' ⟨rfl, hi', ι', L', acc, vs, rest, s', x', hv, ra, hla, hcr, hrs⟩
  have gr : Grow (av fg ι1 L1) (av (fun a => fg a ∨ a = D) ι' L') H1 H' := ⟨fun a u h n => x'.keep a u (g2.keep a u h n) fun z => (g2.new a z).elim n (by rw [h]; exact fun z => by cases z), fun a h => by
    rcases x'.new a h with z | z
    · exact g2.new a z
    · exact .inr (by
        cases q : H1 a with
        | none => rfl
        | some u => rw [upd_ne (ne_of_none q hD), q] at z; cases z)⟩
  by_cases hlt : i < ds.length
  case neg =>
    have hie : i = ds.length := by omega
    subst hie
    refine .inl ⟨WJ.stop _ _ gr _ (Nat.le_refl _), ?_⟩
    rw [List.drop_length] at hcr
    simp only [compLoop, R.ok.injEq] at hcr
    obtain ⟨rfl, rfl⟩ := hcr
    rw [List.append_nil] at hrs
    subst hrs
    exact adopt_ok s1 hD x' s' hv ra p1
  case pos =>
    refine .inr ⟨WJ.go _ _ gr i hlt, fun H'' => ∃ (ι' : List Addr) (L' : List Obj) (acc : List EV.D) (vs : List V) (rest : List EV.D), Sim Y (fun a => fg a ∨ a = D) ι' L' H'' ∧ ExtD (fun a => fg a ∨ a = D) D ι1 L1 (upd H1 D (.lst [])) ι' L' H'' ∧
      H'' D = some (.lst vs) ∧ RDs Y (av (fun a => fg a ∨ a = D) ι' L') H'' acc vs ∧ acc.length ≤ i + 1 ∧ compLoop step (ds.drop (i + 1)) L' = .ok rest Lf ∧ acc ++ rest = rs,
      fun H'' hn => ⟨ds.length - (i + 1), by omega, rfl, hlt, hn⟩, fun x H3 hy => ?_⟩
    obtain ⟨d, hd⟩ : ∃ d, ds[i]? = some d := ⟨ds[i], List.getElem?_eq_getElem hlt⟩
    obtain ⟨hL, rx⟩ := WJ.yld _ _ gr (fun a z => s'.av_dom z) i d x H3 hd hy
    obtain ⟨x0, s0⟩ := laid_ok s' hL
    have nD0 : D ∉ ι' := fun z => s'.fgi D z (.inr rfl)
    have x' := x'.ext (by rw [hv]; exact fun z => by cases z) x0
    have hv := x0.frm D _ hv nD0
    have ra := ra.grow x0.grow
    have gr : Grow (av fg ι1 L1) (av (fun a => fg a ∨ a = D) ι' L') H1 H3 := ⟨fun a u h n => x0.keep a u (gr.keep a u h n) fun z => (gr.new a z).elim n (by rw [h]; exact fun z => by cases z), gr.new⟩
    have s' := s0
    have hdrop : ds.drop i = d :: ds.drop (i + 1) := by
      rw [List.drop_eq_getElem_cons hlt]
      have := (List.getElem?_eq_some_iff.mp hd).2
      rw [this]
    rw [hdrop] at hcr
    obtain ⟨o, La, rest', hstep, hcr', hres⟩ := compLoop_cons hcr
    rw [← hst] at hstep
    simp only at hstep
    have rw' : RSl Y (fun a => fg a ∨ a = D) ι' L' H3 (wipeE ρ vs0) (_root_.L2.wipe σ vs0) := (r1.move x'.pre gr).wipe _
    have nDi : D ∉ ι' := fun z => s'.fgi D z (.inr rfl)
    cases hq : asg tg (.d d) (wipeE ρ vs0) L' with
    | none => rw [hq] at hstep; cases hstep
    | some ρ' =>
    rw [hq] at hstep
    simp only at hstep
    refine ⟨fun a => fg a ∨ a = D, ι', L', wipeE ρ vs0, .d d, s', rw', rx, ρ', hq, fun σ2 q2 w2 => ⟨?_, ?_⟩⟩
    · rw [w2 _ hsl, wipe_wipe]
    refine ⟨fun a => fg a ∨ a = D, ι', L', ρ', s', q2, ?_⟩
    cases hT : eTs P ifs ρ' L' with
    | err x Lb => rw [hT] at hstep; cases hstep
    | bad => rw [hT] at hstep; cases hstep
    | ok b Lb =>
    rw [hT] at hstep
    simp only [R.bind] at hstep
    intro ι2 H2 e2 s2'
    have hD2 : H2 D = some (.lst vs) := e2.frm D _ hv nDi
    have x2 : ExtD (fun a => fg a ∨ a = D) D ι1 L1 (upd H1 D (.lst [])) ι2 Lb H2 := x'.ext (by rw [hv]; exact fun z => by cases z) e2
    cases b with
    | false =>
      rw [if_neg Bool.false_ne_true] at hstep
      dsimp only
      rw [if_neg Bool.false_ne_true]
      simp only [R.ok.injEq] at hstep
      obtain ⟨rfl, rfl⟩ := hstep
      exact ⟨ι2, Lb, acc, vs, rest', s2', x2, hD2, ra.grow e2.grow, by omega, hcr', by rw [← hrs, hres]⟩
    | true =>
      rw [if_pos rfl] at hstep
      dsimp only
      rw [if_pos rfl]
      refine ⟨fun a => fg a ∨ a = D, ι2, Lb, ρ', s2', q2.ext e2, ?_⟩
      cases hE : eE P elt ρ' Lb with
      | err x Lc => rw [hE] at hstep; cases hstep
      | bad => rw [hE] at hstep; cases hstep
      | ok u Lc =>
      rw [hE] at hstep
      simp only [R.bind] at hstep
      intro ι3 H4 e3 s3 y ry
      unfold asD1 at hstep
      cases hA : asD u Lc with
      | none => rw [hA] at hstep; cases hstep
      | some z =>
      obtain ⟨dd, Ld⟩ := z
      rw [hA] at hstep
      simp only [R.bind, R.ok.injEq] at hstep
      obtain ⟨rfl, rfl⟩ := hstep
      obtain ⟨x4, s4, r4⟩ := asD_ok s3 ry hA
      have nDi2 : D ∉ ι2 := fun z => s2'.fgi D z (.inr rfl)
      have hD3 : H4 D = some (.lst vs) := e3.frm D _ hD2 nDi2
      have x3 : ExtD (fun a => fg a ∨ a = D) D ι1 L1 (upd H1 D (.lst [])) ι3 Ld H4 := (x2.ext (by rw [hD2]; exact fun z => by cases z) e3).ext (by rw [hD3]; exact fun z => by cases z) x4
      have ra3 : RDs Y (av (fun a => fg a ∨ a = D) ι3 Ld) H4 (acc ++ [dd]) (vs ++ [y]) := ((((ra.grow e2.grow).grow e3.grow).grow x4.grow)).append (.cons r4 .nil)
      obtain ⟨s5, g5⟩ := s4.poke (D := D) (o := .lst (vs ++ [y])) (.inr rfl)
      refine ⟨vs, hD3, by rw [ra.length, ← sz_eq]; omega, ι3, Ld, acc ++ [dd], vs ++ [y], rest', s5, x3.poke (.inr rfl), upd_same, ra3.grow g5, by simp; omega, hcr', by rw [← hrs, hres]; simp⟩
theorem je_comp (P : Pr) (hc : X.calm = true) (hN : X.N.Nodup) {m : Bool} {own : List (Str × Nat)} {tg : Tg} {it : It} {ifs : List IE} {elt : IE} {tgE iterE eltE : Expr} {ifsE : List Expr} {scope : Scope}
    (hi : JI Y X tgE iterE (eI P it)) (ok : BlkOk X.N X.env.scope scope own) (hsl : ∀ i ∈ tg.slots, i ∈ own.map (·.2))
    (hg : ∀ (s : Shared) (H : Hp) (C : Addr) (cl : List (Str × Addr)) (fp : List Addr), PG (X.blk s H scope (compEnvC scope cl C X.env) fp) tgE (rdG2 Y (asg tg) tg.slots))
    (ht : ∀ (s : Shared) (H : Hp) (C : Addr) (cl : List (Str × Addr)) (fp : List Addr), JTs Y (X.blk s H scope (compEnvC scope cl C X.env) fp) ifsE (eTs P ifs))
    (he : ∀ (s : Shared) (H : Hp) (C : Addr) (cl : List (Str × Addr)) (fp : List Addr), JE Y (X.blk s H scope (compEnvC scope cl C X.env) fp) eltE (eE P elt))
    (hs : ∀ x, foldedSetIterable iterE X.env x = pure x) : JE Y X (.ListComp eltE [⟨tgE, iterE, ifsE, 0⟩] scope pos) (eE P (.comp m (own.map (·.2)) tg it ifs elt)) := by
  intro w tk
  exact PE.imp (pe_lc hc hN (hi w tk) ok hg (fun s H C cl fp => ht s H C cl fp w0 takes0) (fun s H C cl fp => he s H C cl fp w0 takes0) hs) fun σ H Q h => comp_rd P hsl h
end
end EV

set_option maxRecDepth 100000
set_option maxHeartbeats 4000000
namespace EV
open PySem L2 PyProof.Rows
/-- what a block's end asks for -/
def Kfl (Y : Lay) (D : Ends) (fg : Addr → Prop) (f : Fl) (ι : List Addr) (L : List Obj) (H : Hp) (σ : L2.St) : Prop :=
  match f with
  | .nx => D.nx σ H
  | .bk => D.bk σ H
  | .ct => D.ct σ H
  | .rt w => ∀ v, RW Y fg ι L H w v → D.rt v H
def Pqs (Y : Lay) (fg : Addr → Prop) (ι : List Addr) (L : List Obj) (H : Hp) (r : RS) (D : Ends) (w : WX) : Prop :=
  match r with
  | .ok f ρ' L' => ∀ ι' H' σ', Ext fg ι L H ι' L' H' → Sim Y fg ι' L' H' → RSl Y fg ι' L' H' ρ' σ' → Kfl Y D fg f ι' L' H' σ'
  | .err x ρ' L' => ∀ c d ι' H' σ', Ext fg ι L H ι' L' H' → Sim Y fg ι' L' H' → RSl Y fg ι' L' H' ρ' σ' → RX Y fg ι' L' H' x c d → w c d σ' H'
  | .bad => False
section
variable {Y : Lay} {fg : Addr → Prop} {ι ι1 : List Addr} {L L1 : List Obj} {H H1 : Hp} {α : Type} {D : Ends} {w : WX} {σ : L2.St} {ρ : Env}
theorem Pqs.on (e : Ext fg ι L H ι1 L1 H1) {r : RS} (h : Pqs Y fg ι L H r D w) : Pqs Y fg ι1 L1 H1 r D w := by
  cases r with
  | ok f ρ' L' => exact fun ι' H' σ' e' => h ι' H' σ' (e.trans e')
  | err x ρ' L' => exact fun c d ι' H' σ' e' => h c d ι' H' σ' (e.trans e')
  | bad => exact h
theorem Pqs.st (r : RSl Y fg ι L H ρ σ) {m : R α} {f : α → List Obj → RS} (h : Pqs Y fg ι L H (m.st ρ f) D w) :
    Pq Y fg ι L H m (fun a ι1 L1 H1 => Pqs Y fg ι1 L1 H1 (f a L1) D w) (fun c d H' => w c d σ H') := by
  cases m with
  | ok a L1 => exact fun ι1 H1 e s => Pqs.on e h
  | err x L1 => exact fun c d ι1 H1 e s rx => h c d ι1 H1 σ e s (r.ext e) rx
  | bad => exact h
/-- as rd.one, in a statement -/
theorem rdS.one {rel : (Addr → Prop) → List Addr → List Obj → Hp → α → V → Prop} {m : Env → List Obj → R α} {f : α → List Obj → RS} {Q : VK} (s : Sim Y fg ι L H) (r : RSl Y fg ι L H ρ σ) (p : Pqs Y fg ι L H ((m ρ L).st ρ f) D w)
    (h : ∀ a ι1 L1 H1 v, Ext fg ι L H ι1 L1 H1 → Sim Y fg ι1 L1 H1 → RSl Y fg ι1 L1 H1 ρ σ → rel fg ι1 L1 H1 a v → Pqs Y fg ι1 L1 H1 (f a L1) D w → Q v H1) : rdE Y rel m w σ H Q :=
  ⟨fg, ι, L, ρ, s, r, (p.st r).mono (fun a ι1 L1 H1 e s1 p1 v rv => h a ι1 L1 H1 v e s1 (r.ext e) rv p1) fun _ _ _ z => z⟩
theorem rdST.one {m : Env → List Obj → R Bool} {f : Bool → List Obj → RS} {Q : Bool → Hp → Prop} (s : Sim Y fg ι L H) (r : RSl Y fg ι L H ρ σ) (p : Pqs Y fg ι L H ((m ρ L).st ρ f) D w)
    (h : ∀ a ι1 L1 H1, Ext fg ι L H ι1 L1 H1 → Sim Y fg ι1 L1 H1 → RSl Y fg ι1 L1 H1 ρ σ → Pqs Y fg ι1 L1 H1 (f a L1) D w → Q a H1) : rdT Y m w σ H Q :=
  ⟨fg, ι, L, ρ, s, r, (p.st r).mono (fun a ι1 L1 H1 e s1 p1 => h a ι1 L1 H1 e s1 (r.ext e) p1) fun _ _ _ z => z⟩
/-- the place is reached: what the block goes on to -/
theorem Pqs.nx {D : Ends} {w : WX} {σ' : L2.St} {ρ' : Env} (p : Pqs Y fg ι L H (.ok .nx ρ' L) D w) (s : Sim Y fg ι L H) (r : RSl Y fg ι L H ρ' σ') : D.nx σ' H := p ι H σ' .refl s r
end
section
variable (Y : Lay) (X : Cx)
def rdS (m : Env → List Obj → RS) (w : WX) : TS := fun D σ H => ∃ fg ι L ρ, Sim Y fg ι L H ∧ RSl Y fg ι L H ρ σ ∧ Pqs Y fg ι L H (m ρ L) D w
def JS (st : Stmt) (m : Env → List Obj → RS) : Prop := ∀ w, Takes X w → PS X st (rdS Y m w)
def JB (sts : List Stmt) (m : Env → List Obj → RS) : Prop := ∀ w, Takes X w → PSs X sts (rdS Y m w)
end
section
variable {X : Cx} {st : Stmt} {sts : List Stmt}
theorem PS.imp {t t' : TS} (h : PS X st t) (k : ∀ D σ H, t' D σ H → t D σ H) : PS X st t' := ⟨fun pins s σ H D I q => h.run pins s σ H D I (k _ _ _ q)⟩
theorem PSs.imp {t t' : TS} (h : PSs X sts t) (k : ∀ D σ H, t' D σ H → t D σ H) : PSs X sts t' := ⟨fun pins s σ H D I q => h.run pins s σ H D I (k _ _ _ q)⟩
end
section
variable {Y : Lay} {X : Cx} {pos : Pos} {e : Expr} {st : Stmt} {sts : List Stmt}
theorem jb_nil (P : Pr) : JB Y X [] (eB P []) := by
  intro w tk
  refine PSs.imp pss_nil fun D σ H h => ?_
  obtain ⟨fg, ι, L, ρ, s, r, p⟩ := h
  simp only [eB] at p
  exact p.nx s r
theorem seq_ok (P : Pr) {m : Env → List Obj → RS} {ss : List IS} {w : WX} {D : Ends} {σ : L2.St} {H : Hp} (h : rdS Y (fun ρ L => match m ρ L with
    | .ok .nx ρ' L' => eB P ss ρ' L'
    | r => r) w D σ H) : rdS Y m w { D with nx := rdS Y (eB P ss) w D } σ H := by
  obtain ⟨fg, ι, L, ρ, s, r, p⟩ := h
  refine ⟨fg, ι, L, ρ, s, r, ?_⟩
  dsimp only at p
  cases q : m ρ L with
  | bad => rw [q] at p; exact p.elim
  | err x ρ1 L1 => rw [q] at p; exact p
  | ok f ρ1 L1 =>
    rw [q] at p
    cases f with
    | nx => exact fun ι1 H1 σ1 e1 s1 r1 => ⟨fg, ι1, L1, ρ1, s1, r1, Pqs.on e1 p⟩
    | rt v => exact p
    | bk => exact p
    | ct => exact p
theorem jb_cons (P : Pr) {x : IS} {xs : List IS} (h1 : JS Y X st (eS P x)) (h2 : JB Y X sts (eB P xs)) : JB Y X (st :: sts) (eB P (x :: xs)) := by
  intro w tk
  refine PSs.imp (pss_cons (h1 w tk) (h2 w tk)) fun D σ H h => ?_
  refine seq_ok P (m := eS P x) ?_
  obtain ⟨fg, ι, L, ρ, s, r, p⟩ := h
  refine ⟨fg, ι, L, ρ, s, r, ?_⟩
  simp only [eB] at p
  exact p
/-- a docstring does nothing -/
theorem jb_doc (P : Pr) {z : Str} {j : Tok} {p0 p1 : Pos} {xs : List IS} (h2 : JB Y X sts (eB P xs)) : JB Y X (.Expr (.Constant (.str z) j p0) p1 :: sts) (eB P xs) := by
  intro w tk
  refine PSs.imp (pss_cons ps_doc (h2 w tk)) fun D σ H h => h
theorem js_pass (P : Pr) : JS Y X (.Pass pos) (eS P .pass) := by
  intro w tk
  refine PS.imp ps_pass fun D σ H h => ?_
  obtain ⟨fg, ι, L, ρ, s, r, p⟩ := h
  simp only [eS] at p
  exact p.nx s r
theorem js_brk (P : Pr) : JS Y X (.Break pos) (eS P .brk) := by
  intro w tk
  refine PS.imp ps_break fun D σ H h => ?_
  obtain ⟨fg, ι, L, ρ, s, r, p⟩ := h
  simp only [eS] at p
  exact p ι H σ .refl s r
theorem js_cont (P : Pr) : JS Y X (.Continue pos) (eS P .cont) := by
  intro w tk
  refine PS.imp ps_continue fun D σ H h => ?_
  obtain ⟨fg, ι, L, ρ, s, r, p⟩ := h
  simp only [eS] at p
  exact p ι H σ .refl s r
theorem js_retN (P : Pr) : JS Y X (.Return none pos) (eS P .retN) := by
  intro w tk
  refine PS.imp ps_retN fun D σ H h => ?_
  obtain ⟨fg, ι, L, ρ, s, r, p⟩ := h
  simp only [eS] at p
  exact p ι H σ .refl s r .non .non
theorem js_ret (P : Pr) {x : IE} (he : JE Y X e (eE P x)) : JS Y X (.Return (some e) pos) (eS P (.ret x)) := by
  intro w tk
  refine PS.imp (ps_ret (he w tk)) fun D σ H h => ?_
  obtain ⟨fg, ι, L, ρ, s, r, p⟩ := h
  simp only [eS] at p
  exact rdS.one s r p fun u ι1 L1 H1 v e1 s1 r1 rv p1 => p1 ι1 H1 σ .refl s1 r1 v rv
theorem js_ex (P : Pr) {x : IE} (he : JE Y X e (eE P x)) (hs : swapsWith e none pos.line X.env = pure false) : JS Y X (.Expr e pos) (eS P (.ex x)) := by
  intro w tk
  refine PS.imp (ps_expr (he w tk) hs) fun D σ H h => ?_
  obtain ⟨fg, ι, L, ρ, s, r, p⟩ := h
  simp only [eS] at p
  exact rdS.one s r p fun u ι1 L1 H1 v e1 s1 r1 rv p1 => p1.nx s1 r1
theorem st_bool {α : Type} {m : R W} {ρ : Env} {f : Bool → List Obj → RS} : (m.st ρ fun w L => (truthR w L).st ρ f) = (m.bind truthR).st ρ f := by
  cases m <;> rfl
theorem js_if (P : Pr) {x : IE} {xa xb : List IS} {a b : List Stmt} (hc : JT Y X e (fun ρ L => (eE P x ρ L).bind truthR)) (ha : JB Y X a (eB P xa)) (hb : JB Y X b (eB P xb)) : JS Y X (.If e a b pos) (eS P (.ifs x xa xb)) := by
  intro w tk
  refine PS.imp (ps_if (hc w tk) (ha w tk) (hb w tk)) fun D σ H h => ?_
  obtain ⟨fg, ι, L, ρ, s, r, p⟩ := h
  simp only [eS] at p
  rw [st_bool (α := Bool)] at p
  refine rdST.one (m := fun ρ L => (eE P x ρ L).bind truthR) s r p fun c ι1 L1 H1 e1 s1 r1 p1 => ?_
  cases c with
  | true => exact ⟨fg, ι1, L1, ρ, s1, r1, p1⟩
  | false => exact ⟨fg, ι1, L1, ρ, s1, r1, p1⟩
theorem js_asg (P : Pr) {x : IE} {tg : Tg} {sl : List Nat} {tgE : Expr} (he : JE Y X e (eE P x)) (hg : PG X tgE (rdG2 Y (asg tg) sl)) (hs : swapsWithSole [tgE] e pos.line X.env = pure false) (hw : swappedStores [tgE] e X.env = pure none) (h1 : (assignEach [tgE] X.env).map (·.2) = [assign tgE X.env]) :
    JS Y X (.Assign [tgE] e pos) (eS P (.asg tg x)) := by
  intro w tk
  refine PS.imp (ps_asg (he w tk) hg hs hw h1) fun D σ H h => ?_
  obtain ⟨fg, ι, L, ρ, s, r, p⟩ := h
  simp only [eS] at p
  refine rdS.one s r p fun u ι1 L1 H1 v e1 s1 r1 rv p1 => ?_
  cases q : asg tg u ρ L1 with
  | none => rw [q] at p1; exact p1.elim
  | some ρ1 =>
    rw [q] at p1
    exact ⟨fg, ι1, L1, ρ, u, s1, r1, rv, ρ1, q, fun σ1 r2 _ => p1.nx s1 r2⟩
theorem js_setLc (P : Pr) (hc : X.calm = true) (hN : X.N.Nodup) {m : Bool} {own : List (Str × Nat)} {tg : Tg} {it : It} {ifs : List IE} {elt : IE} {i : Nat} {y : Str} {py spos : Pos} {tgE iterE eltE : Expr} {ifsE : List Expr} {scope : Scope}
    (hy : X.N[i]? = some y) (hyl : X.env.scope.names.lookup y = some .local) (hsw : swapsWith (.ListComp eltE [⟨tgE, iterE, ifsE, 0⟩] scope pos) (some (.Name y py)) spos.line X.env = pure true)
    (hi : JI Y X tgE iterE (eI P it)) (ok : BlkOk X.N X.env.scope scope own) (hsl : ∀ i ∈ tg.slots, i ∈ own.map (·.2))
    (hg : ∀ (s : Shared) (H : Hp) (C : Addr) (cl : List (Str × Addr)) (fp : List Addr), PG (X.blk s H scope (compEnvC scope cl C X.env) fp) tgE (rdG2 Y (asg tg) tg.slots))
    (ht : ∀ (s : Shared) (H : Hp) (C : Addr) (cl : List (Str × Addr)) (fp : List Addr), JTs Y (X.blk s H scope (compEnvC scope cl C X.env) fp) ifsE (eTs P ifs))
    (he : ∀ (s : Shared) (H : Hp) (C : Addr) (cl : List (Str × Addr)) (fp : List Addr), JE Y (X.blk s H scope (compEnvC scope cl C X.env) fp) eltE (eE P elt))
    (hs : ∀ x, foldedSetIterable iterE X.env x = pure x) : JS Y X (.Assign [.Name y py] (.ListComp eltE [⟨tgE, iterE, ifsE, 0⟩] scope pos) spos) (eS P (.asg (.nm i) (.comp m (own.map (·.2)) tg it ifs elt))) := by
  intro w tk
  refine PS.imp (ps_setLc hc hN hy hyl hsw (hi w tk) ok hg (fun s H C cl fp => ht s H C cl fp w0 takes0) (fun s H C cl fp => he s H C cl fp w0 takes0) hs) fun D σ H h => ?_
  obtain ⟨fg, ι, L, ρ, s, r, p⟩ := h
  rw [eS] at p
  refine comp_rd P hsl (m := m) (rdS.one s r p fun u ι1 L1 H1 v e1 s1 r1 rv p1 => ?_)
  exact p1.nx s1 (r1.set i rv)
def rAug (op : BOp) : R2 := fun x y H Q => match op with
  | .add => (∃ i j, x = .int i ∧ y = .int j ∧ Q (.int (i + j)) H) ∨ (∃ i j, x = .str i ∧ y = .str j ∧ i.length + j.length ≤ sizeLine ∧ Q (.str (i ++ j)) H)
  | .sub => ∃ i j, x = .int i ∧ y = .int j ∧ Q (.int (i - j)) H
  | _ => False
theorem iop_aug (op : BOp) : OpR X (inplaceOp (bopOf op)) (rAug op) := by
  intro pins s σ H x y v u Q I r1 r2 h
  cases op with
  | add =>
    rcases h with h | h
    · exact iop_add pins s σ H x y v u Q I r1 r2 h
    · exact iop_add_str pins s σ H x y v u Q I r1 r2 h
  | sub => exact iop_sub pins s σ H x y v u Q I r1 r2 h
  | _ => exact h.elim
theorem js_aug (P : Pr) {op : BOp} {i : Nat} {x : IE} {y : Str} {py : Pos} (hN : X.N.Nodup) (hi : X.N[i]? = some y) (hx : Loc X.env.scope y) (hf : X.fn y = true ∨ X.env.scope.names.lookup y = some .local) (he : JE Y X e (eE P x)) : JS Y X (.AugAssign (.Name y py) (bopOf op) e pos) (eS P (.aug op i x)) := by
  intro w tk
  refine PS.imp (ps_aug hN hi hx (he w tk) (fun pins s σ H x y v u Q I r1 r2 h => iop_aug (X := X) op pins s σ H x y v u Q I r1 r2 h) hf) fun D σ H h => ?_
  obtain ⟨fg, ι, L, ρ, s, r, p⟩ := h
  simp only [eS] at p
  cases q : ρ[i]? with
  | none => rw [q] at p; exact p.elim
  | some o =>
  cases o with
  | none => rw [q] at p; exact p.elim
  | some a =>
  rw [q] at p
  simp only at p
  obtain ⟨v, e1, rv⟩ := r.get i a q
  refine ⟨v, e1, rdS.one s r p fun u ι1 L1 H1 z e2 s1 r1 rz p1 => ?_⟩
  cases a with
  | loc _ => exact p1.elim
  | d d1 =>
  cases u with
  | loc _ => exact p1.elim
  | d d2 =>
  simp only at p1
  cases q2 : augO op d1 d2 with
  | none => rw [q2] at p1; exact p1.elim
  | some d =>
  rw [q2] at p1
  have k1 : RD Y _ H1 d1 v := rv.ext e2
  have k2 : RD Y _ H1 d2 z := rz
  have fin : ∀ x, RD Y (av fg ι1 L1) H1 d x → D.nx (σ.set i (some x)) H1 := fun x rx => p1.nx s1 (r1.set i (w := .d d) rx)
  unfold augO at q2
  split at q2
  · cases q2; cases k1; cases k2; exact .inl ⟨_, _, rfl, rfl, fin _ (.int _)⟩
  · cases q2; cases k1; cases k2; exact ⟨_, _, rfl, rfl, fin _ (.int _)⟩
  · rename_i a b
    split at q2
    · rename_i hz
      cases q2; cases k1; cases k2
      refine .inr ⟨_, _, rfl, rfl, by show a.toArray.size + b.toArray.size ≤ 16777216; simpa using hz, ?_⟩
      have := fin (.str (S (a ++ b))) (.str _)
      rwa [show S (a ++ b) = S a ++ S b from by show (⟨(a ++ b).toArray⟩ : Str) = ⟨a.toArray ++ b.toArray⟩; simp] at this
    · cases q2
  · cases q2
def plainSub (i : Expr) : Prop := ∀ (o : Expr) (pos : Pos) (env : PySem.Env) (v : Value), assign (.Subscript o i pos) env v = (do
      let ov ← holding [v] (eval o env)
      let iv ← holding [v, ov] (eval i env)
      standAt pos
      holding [v, ov, iv] (setItem ov iv v)
      release [v, ov, iv] [])
theorem plain_sub {i : Expr} (h : plainIxB i = true) : plainSub i := by
  intro o pos env v
  cases i <;> first | rfl | cases h
theorem ixN_of {n : Nat} {k : Int} {m : Nat} (h : ixO n k = some m) : ixN n k = some m := by
  unfold ixO at h
  unfold ixN
  exact h
theorem js_setI (P : Pr) {xo xi x : IE} {o i : Expr} {p2 : Pos} (hix : plainIxB i = true) (ho : JE Y X o (eE P xo)) (hi : JE Y X i (eE P xi)) (he : JE Y X e (eE P x)) (hs : swapsWithSole [.Subscript o i p2] e pos.line X.env = pure false) (hw : swappedStores [.Subscript o i p2] e X.env = pure none) (h1 : (assignEach [.Subscript o i p2] X.env).map (·.2) = [assign (.Subscript o i p2) X.env]) :
    JS Y X (.Assign [.Subscript o i p2] e pos) (eS P (.setI xo xi x)) := by
  intro w tk
  refine PS.imp (ps_asg (he w tk) (pg_sub (ho w tk) (hi w tk) set_list (fun v => plain_sub hix _ _ _ _)) hs hw h1) fun D σ H h => ?_
  obtain ⟨fg, ι, L, ρ, s, r, p⟩ := h
  simp only [eS] at p
  refine rdS.one s r p fun u ι1 L1 H1 v e1 s1 r1 rv p1 => rdS.one s1 r1 p1 fun u2 ι2 L2 H2 v2 e2 s2 r2 rv2 p2 => rdS.one s2 r2 p2 fun u3 ι3 L3 H3 v3 e3 s3 r3 rv3 p3 => ?_
  cases q1 : asD u L3 with
  | none => rw [q1] at p3; exact p3.elim
  | some y =>
  obtain ⟨d, L4⟩ := y
  rw [q1] at p3
  obtain ⟨x4, s4, r4⟩ := asD_ok s3 ((rv.ext e2).ext e3) q1
  cases u3 with
  | loc _ => exact p3.elim
  | d d3 =>
  cases d3 with
  | int k =>
    simp only at p3
    cases q2 : lstAt u2 L4 with
    | none => rw [q2] at p3; exact p3.elim
    | some y =>
    obtain ⟨n, xs⟩ := y
    rw [q2] at p3
    simp only at p3
    cases q3 : ixO xs.length k with
    | none => rw [q3] at p3; exact p3.elim
    | some m =>
    rw [q3] at p3
    simp only at p3
    obtain ⟨pa, vs, rfl, rfl, m1, m2, m3, m4⟩ := lstAt_ok s4 ((rv2.ext e3).ext x4) q2
    cases (show RD Y _ _ (.int k) v3 from rv3)
    obtain ⟨x5, s5⟩ := s4.write (o' := .lst (xs.set m d)) (u := .lst (vs.set m v)) m1 m2 rfl rfl fun {L' H'} e q => ⟨_, q, (m4.set r4 m).grow e.grow⟩
    exact ⟨pa, vs, k, m, rfl, rfl, m3, by rw [m4.length]; exact ixN_of q3, (Pqs.on (x4.trans x5) p3).nx s5 ((r3.ext x4).ext x5)⟩
  | _ => exact p3.elim
theorem js_for (P : Pr) (hp : PassesOwn (model X.prog X.w) X.A X.env X.xe) (hc : X.calm = true) {tg : Tg} {sl : List Nat} {it : It} {xb : List IS} {tgE : Expr} {body : List Stmt} (hi : JI Y X tgE e (eI P it)) (hg : PG X tgE (rdG2 Y (asg tg) sl)) (hb : JB Y X body (eB P xb))
    (hs : ∀ x, foldedSetIterable e X.env x = pure x) : JS Y X (.For tgE e body [] pos) (eS P (.for_ tg it xb)) := by
  intro w tk
  refine PS.imp (ps_for hp hc (hi w tk) hg (hb w tk) hs) fun D σ H h => ?_
  obtain ⟨fg, ι, L, ρ, s, r, p⟩ := h
  simp only [eS] at p
  generalize hst : (fun (x : EV.D) (ρ : Env) (L : List Obj) => match asg tg (.d x) ρ L with
    | some ρ' => eB P xb ρ' L
    | none => RS.bad) = step at p
  refine ⟨fg, ι, L, ρ, s, r, (p.st r).mono (fun ds ι1 L1 H1 e1 s1 p1 J WJ => ?_) fun _ _ _ z => z⟩
  have r1 := r.ext e1
  refine ⟨fun i m σ' H' => m = ds.length - i ∧ i ≤ ds.length ∧ ∃ ι' L' ρ', Ext fg ι1 L1 H1 ι' L' H' ∧ Sim Y fg ι' L' H' ∧ RSl Y fg ι' L' H' ρ' σ' ∧ Pqs Y fg ι' L' H' (forLoop step (ds.drop i) ρ' L') D w,
    ⟨ds.length, by simp, Nat.zero_le _, ι1, L1, ρ, .refl, s1, r1, by rw [List.drop_zero]; exact p1⟩, ?_⟩
  rintro i m σ' H' ⟨rfl, hi', ι', L', ρ', x', s', r', p'⟩
  by_cases hlt : i < ds.length
  case neg =>
    have hie : i = ds.length := by omega
    subst hie
    rw [List.drop_length] at p'
    exact .inl ⟨WJ.stop _ _ x'.grow _ (Nat.le_refl _), p'.nx s' r'⟩
  case pos =>
    refine .inr ⟨WJ.go _ _ x'.grow i hlt, fun σ2 H2 => ∃ ι' L' ρ', Ext fg ι1 L1 H1 ι' L' H2 ∧ Sim Y fg ι' L' H2 ∧ RSl Y fg ι' L' H2 ρ' σ2 ∧ Pqs Y fg ι' L' H2 (forLoop step (ds.drop (i + 1)) ρ' L') D w,
      fun σ2 H2 hn => ⟨ds.length - (i + 1), by omega, rfl, hlt, hn⟩, fun x H3 hy => ?_⟩
    obtain ⟨d, hd⟩ : ∃ d, ds[i]? = some d := ⟨ds[i], List.getElem?_eq_getElem hlt⟩
    obtain ⟨hL, rx⟩ := WJ.yld _ _ x'.grow (fun a z => s'.av_dom z) i d x H3 hd hy
    obtain ⟨x0, s0⟩ := laid_ok s' hL
    have x' := x'.trans x0
    have r' := r'.ext x0
    have p' := Pqs.on x0 p'
    have s' := s0
    have hdrop : ds.drop i = d :: ds.drop (i + 1) := by
      rw [List.drop_eq_getElem_cons hlt]
      have := (List.getElem?_eq_some_iff.mp hd).2
      rw [this]
    rw [hdrop] at p'
    simp only [forLoop] at p'
    rw [← hst] at p'
    cases hq : asg tg (.d d) ρ' L' with
    | none => simp only [hq] at p'; exact p'.elim
    | some ρ2 =>
    simp only [hq] at p'
    refine ⟨fg, ι', L', ρ', .d d, s', r', rx, ρ2, hq, fun σ2 q2 _ => ⟨fg, ι', L', ρ2, s', q2, ?_⟩⟩
    cases hB : eB P xb ρ2 L' with
    | bad => rw [hB] at p'; exact p'.elim
    | err x ρ3 L3 => rw [hB] at p'; exact p'
    | ok f ρ3 L3 =>
      rw [hB] at p'
      rw [hst] at p'
      cases f with
      | nx => exact fun ι3 H4 σ3 e3 s3 r3 => ⟨ι3, L3, ρ3, x'.trans e3, s3, r3, Pqs.on e3 p'⟩
      | ct => exact fun ι3 H4 σ3 e3 s3 r3 => ⟨ι3, L3, ρ3, x'.trans e3, s3, r3, Pqs.on e3 p'⟩
      | bk => exact p'
      | rt v => exact p'
theorem js_wh (P : Pr) (hp : PassesOwn (model X.prog X.w) X.A X.env X.xe) {n : Nat} {x : IE} {xb : List IS} {body : List Stmt} (hc : JT Y X e (fun ρ L => (eE P x ρ L).bind truthR)) (hb : JB Y X body (eB P xb)) : JS Y X (.While e body [] pos) (eS P (.wh n x xb)) := by
  intro w tk
  refine PS.imp (ps_while hp (hc w tk) (hb w tk)) fun D σ H h => ?_
  obtain ⟨fg, ι, L, ρ, s, r, p⟩ := h
  simp only [eS] at p
  refine ⟨fun m σ' H' => ∃ fg ι' L' ρ', Sim Y fg ι' L' H' ∧ RSl Y fg ι' L' H' ρ' σ' ∧ Pqs Y fg ι' L' H' (whLoop (fun ρ L => (eE P x ρ L).bind truthR) (fun ρ L => eB P xb ρ L) m ρ' L') D w, ⟨n, fg, ι, L, ρ, s, r, p⟩, ?_⟩
  rintro m σ' H' ⟨fg, ι', L', ρ', s', r', p'⟩
  cases m with
  | zero => exact p'.elim
  | succ m =>
    simp only [whLoop] at p'
    refine rdST.one (m := fun ρ L => (eE P x ρ L).bind truthR) s' r' p' fun c ι1 L1 H1 e1 s1 r1 p1 => ?_
    cases c with
    | false => exact p1.nx s1 r1
    | true =>
      rw [if_pos rfl] at p1
      rw [if_pos rfl]
      refine ⟨fun σ2 H2 => ∃ fg ι' L' ρ', Sim Y fg ι' L' H2 ∧ RSl Y fg ι' L' H2 ρ' σ2 ∧ Pqs Y fg ι' L' H2 (whLoop (fun ρ L => (eE P x ρ L).bind truthR) (fun ρ L => eB P xb ρ L) m ρ' L') D w, fun σ2 H2 hn => ⟨m, Nat.lt_succ_self m, hn⟩, fg, ι1, L1, ρ', s1, r1, ?_⟩
      cases hB : eB P xb ρ' L1 with
      | bad => rw [hB] at p1; exact p1.elim
      | err x ρ3 L3 => rw [hB] at p1; exact p1
      | ok f ρ3 L3 =>
        rw [hB] at p1
        cases f with
        | nx => exact fun ι3 H4 σ3 e3 s3 r3 => ⟨fg, ι3, L3, ρ3, s3, r3, Pqs.on e3 p1⟩
        | ct => exact fun ι3 H4 σ3 e3 s3 r3 => ⟨fg, ι3, L3, ρ3, s3, r3, Pqs.on e3 p1⟩
        | bk => exact p1
        | rt v => exact p1
end
end EV

set_option maxRecDepth 100000
set_option maxHeartbeats 4000000
namespace EV
open PySem L2 PyProof.Rows
section
variable {Y : Lay} {fg : Addr → Prop} {ι ι1 : List Addr} {L La : List Obj} {H H1 : Hp}
/-- a new object, made beside, comes to the data -/
theorem adopt_base {D : Addr} {o : HO} (s : Sim Y fg ι L H) (hD : H D = none) (e : ExtD (fun a => fg a ∨ a = D) D ι L (upd H D o) ι1 La H1) (s1 : Sim Y (fun a => fg a ∨ a = D) ι1 La H1) :
    Ext fg ι L H ι1 La H1 ∧ Sim Y fg ι1 La H1 ∧ ¬ av fg ι1 La D ∧ Grow (av (fun a => fg a ∨ a = D) ι1 La) (av fg ι1 La) H1 H1 := by
  have nD : D ∉ ι := fun z => s.dom D z hD
  have nD1 : D ∉ ι1 := fun z => s1.fgi D z (.inr rfl)
  have nf : ¬ fg D := fun z => s.fgn D z hD
  have dom0 : ∀ a u, H a = some u → upd H D o a = some u := fun a u h => by rw [upd_ne (ne_of_none h hD)]; exact h
  have none0 : ∀ a, upd H D o a = none → H a = none := fun a h => by
    cases q : H a with
    | none => rfl
    | some u => rw [dom0 a u q] at h; cases h
  have avn : ∀ a, av (fun a => fg a ∨ a = D) ι L a → av fg ι L a ∨ H a = none := fun a h => by
    rcases h with (h | h) | h
    · exact .inl (.inl h)
    · subst h; exact .inr hD
    · exact .inl (.inr h)
  have hnav : ¬ av fg ι1 La D := by
    rintro (z | ⟨n, x, h1, _⟩)
    · exact nf z
    · exact nD1 (List.mem_of_getElem? h1)
  have g : Grow (av (fun a => fg a ∨ a = D) ι1 La) (av fg ι1 La) H1 H1 := ⟨fun _ _ h _ => h, fun a h => .inl (h.imp .inl id)⟩
  have ee : Ext fg ι L H ι1 La H1 := by
    refine ⟨e.pre, fun a u h n => e.keep a u (dom0 a u h) ?_, fun a h => ?_, fun a h => ?_, fun a u h n => e.frm a u (dom0 a u h) n (ne_of_none h hD)⟩
    · rintro ((z | z) | z)
      · exact n (.inl z)
      · subst z; rw [hD] at h; cases h
      · exact n (.inr z)
    · rcases e.new a (h.imp .inl id) with z | z
      · exact avn a z
      · exact .inr (none0 a z)
    · rcases e.newi a h with z | z
      · exact .inl z
      · exact .inr (none0 a z)
  exact ⟨ee, ⟨s1.len, s1.nd, fun n a x h1 h2 => RO.shift pre0 g (fun _ q => q) (s1.obj n a x h1 h2), fun a h => s1.fgn a (.inl h), fun a h z => s1.fgi a h (.inl z), s1.dom⟩, hnav, g⟩
theorem RX.grow {av' : Addr → Prop} {fg' : Addr → Prop} {x : Exc} {c : Value} {d : Option Addr} (g : Grow (av fg ι L) (av fg' ι1 La) H H) (h : RX Y fg ι L H x c d) : RX Y fg' ι1 La H x c d := by
  obtain ⟨C, h1, h2, h3⟩ := h
  refine ⟨C, h1, h2, ?_⟩
  cases q : x.arg with
  | none => trivial
  | some a =>
    rw [q] at h3
    obtain ⟨dx, f, v, k1, k2, k3, k4⟩ := h3
    exact ⟨dx, f, v, k1, k2, k3, k4.grow g⟩
end
def flat2 : List (V × V) → List V
  | [] => []
  | (x, y) :: r => x :: y :: flat2 r
def rdP (Y : Lay) (m : Env → List Obj → R (List W)) (w : WX) (σ : L2.St) (H : Hp) (Q : List (V × V) → Hp → Prop) : Prop := ∃ fg ι L ρ, Sim Y fg ι L H ∧ RSl Y fg ι L H ρ σ ∧
  Pq Y fg ι L H (m ρ L) (fun a ι' L' H' => ∀ ps, RWs Y fg ι' L' H' a (flat2 ps) → Q ps H') (fun c d H' => w c d σ H')
def JP (Y : Lay) (X : Cx) (pos : Pos) (ks : List (Option Expr)) (vs : List Expr) (m : Env → List Obj → R (List W)) : Prop := ∀ w, Takes X w → ∃ trs, PPs X pos ks vs trs ∧ ∀ σ H Q, rdP Y m w σ H Q → tPairs trs σ H Q
section
variable {Y : Lay} {X : Cx} {pos : Pos} {k v : Expr} {ks : List (Option Expr)} {vs : List Expr}
theorem jp_nil (P : Pr) : JP Y X pos [] [] (eEs P []) := fun w tk => ⟨[], pps_nil, fun σ H Q h => by
  obtain ⟨fg, ι, L, ρ, s, r, p⟩ := h
  exact Pq.ok s p [] .nil⟩
theorem jp_cons (P : Pr) {x y : IE} {xs : List IE} (hk : JE Y X k (eE P x)) (hv : JE Y X v (eE P y)) (h : JP Y X pos ks vs (eEs P xs)) : JP Y X pos (some k :: ks) (v :: vs) (eEs P (x :: y :: xs)) := fun w tk => by
  obtain ⟨trs, h1, h2⟩ := h w tk
  refine ⟨_, pps_cons (hk w tk) (hv w tk) h1, fun σ H Q h => ?_⟩
  obtain ⟨fg, ι, L, ρ, s, r, p⟩ := h
  simp only [eEs] at p
  refine rd.one s r p fun u ι1 L1 H1 a e1 s1 r1 ra p1 => ?_
  have p1' := p1.bind
  refine ⟨fg, ι1, L1, ρ, s1, r1, p1'.bind.mono (fun u2 ι2 L2 H2 e2 s2 p2 b rb => ?_) fun _ _ _ z => z⟩
  refine h2 σ H2 _ ⟨fg, ι2, L2, ρ, s2, (r1.ext e2), p2.bind.mono (fun us ι3 L3 H3 e3 s3 p3 ps rps => ?_) fun _ _ _ z => z⟩
  have p4 := Pq.ok s3 p3
  have p5 := Pq.ok s3 p4
  exact p5 ((a, b) :: ps) (.cons ((ra.ext e2).ext e3) (.cons (rb.ext e3) rps))
theorem unpair_ok {fg : Addr → Prop} {ι : List Addr} {L : List Obj} {H : Hp} : ∀ {ws : List W} {ps : List (V × V)} {qs : List (D × W)}, RWs Y fg ι L H ws (flat2 ps) → unpair ws = some qs →
    ∃ keys : List Key, keys.length = qs.length ∧ (∀ i : Nat, (qs[i]?).map (fun p => keyD p.1) = (keys[i]?).map some) ∧ ps.map (·.1) = keys.map kV ∧ RWs Y fg ι L H (qs.map (·.2)) (ps.map (·.2))
  | [], ps, qs, r, e => by
    cases ps with
    | nil => cases e; exact ⟨[], rfl, fun i => by simp, rfl, .nil⟩
    | cons p ps => cases r
  | w :: ws, ps, qs, r, e => by
    cases ps with
    | nil => cases r
    | cons p ps =>
      obtain ⟨a, b⟩ := p
      cases r with
      | cons r1 r =>
        cases r with
        | cons r2 r =>
          rename_i ws w2
          cases w with
          | loc n => simp [unpair] at e
          | d k =>
            simp only [unpair] at e
            cases hk : keyD k with
            | none => rw [hk] at e; cases e
            | some q =>
              rw [hk] at e
              simp only [Option.map_eq_some_iff] at e
              obtain ⟨qs', e', rfl⟩ := e
              obtain ⟨keys, h1, h2, h3, h4⟩ := unpair_ok r e'
              refine ⟨q :: keys, by simp [h1], fun i => ?_, ?_, .cons r2 h4⟩
              · cases i with
                | zero => simp [hk]
                | succ i => simpa using h2 i
              · rw [List.map_cons, List.map_cons, h3]
                have : a = kV q := by
                  cases k with
                  | str s => cases hk; cases r1; rfl
                  | int i => cases hk; cases r1; rfl
                  | _ => cases hk
                rw [this]
theorem zip_ok {av : Addr → Prop} {H : Hp} : ∀ {ks : List D} {keys : List Key} {ds : List D} {vs : List V}, ks.length = keys.length → (∀ i : Nat, (ks[i]?).map keyD = (keys[i]?).map some) → RDs Y av H ds vs → RDk Y av H (ks.zip ds) (keys.zip vs)
  | [], [], _, _, _, _, _ => by simp; exact .nil
  | [], _ :: _, _, _, h, _, _ => by simp at h
  | _ :: _, [], _, _, h, _, _ => by simp at h
  | k :: ks, q :: keys, _, _, h, hq, .nil => by simp; exact .nil
  | k :: ks, q :: keys, _, _, h, hq, .cons r rs => by
    rw [List.zip_cons_cons, List.zip_cons_cons]
    refine .cons (by simpa using hq 0) r (zip_ok (by simpa using h) (fun i => by simpa using hq (i + 1)) rs)
theorem RWs.len2 {fg : Addr → Prop} {ι : List Addr} {L : List Obj} {H : Hp} {us : List W} {vs : List V} (r : RWs Y fg ι L H us vs) : vs.length = us.length := r.len
theorem je_dct (P : Pr) {xs : List IE} (hl : ks.length = vs.length) (hall : ks.all (·.isSome) = true) (h0 : ks ≠ []) (h15 : ks.length ≤ 15) (h : JP Y X pos ks vs (eEs P xs)) : JE Y X (.Dict ks vs pos) (eE P (.dct xs)) := by
  intro w tk
  obtain ⟨trs, h1, h2⟩ := h w tk
  refine PE.imp (pe_disp h1 hall hl h0 h15) fun σ H Q hr => ?_
  obtain ⟨fg, ι, L, ρ, s, r, p⟩ := hr
  intro D hD
  simp only [eE] at p
  obtain ⟨s', g'⟩ := s.beside (o := .dK []) hD
  refine h2 σ _ _ ⟨fun a => fg a ∨ a = D, ι, L, ρ, s', r.move pre0 g', ?_⟩
  have nf : ∀ {ι1 : List Addr} {La : List Obj} {H1 : Hp}, Sim Y (fun a => fg a ∨ a = D) ι1 La H1 → D ∉ ι1 := fun s1 z => s1.fgi D z (.inr rfl)
  have toD : ∀ {ι1 : List Addr} {La : List Obj} {H1 : Hp}, Ext (fun a => fg a ∨ a = D) ι L (upd H D (.dK [])) ι1 La H1 → ExtD (fun a => fg a ∨ a = D) D ι L (upd H D (.dK [])) ι1 La H1 := fun e => ⟨e.pre, e.keep, e.new, e.newi, fun a o h n _ => e.frm a o h n⟩
  cases hE : eEs P xs ρ L with
  | bad => rw [hE] at p; exact p.elim
  | err x La =>
    rw [hE] at p
    intro c d ι1 H1 e1 s1 rx
    obtain ⟨ee, ss, _, g⟩ := adopt_base s hD (toD e1) s1
    exact p c d ι1 H1 ee ss (rx.grow (av' := fun _ => True) g)
  | ok ws La =>
    rw [hE] at p
    simp only [R.bind] at p
    intro ι1 H1 e1 s1 ps rps
    have hDD : H1 D = some (.dK []) := e1.frm D _ upd_same (nf s')
    refine ⟨hDD, ?_⟩
    unfold dctD at p
    cases q1 : unpair ws with
    | none => simp only [q1] at p; exact p.elim
    | some qs =>
    rw [q1] at p
    simp only at p
    cases q2 : asDs (qs.map (·.2)) La with
    | none => rw [q2] at p; exact p.elim
    | some y =>
    obtain ⟨ds, Lb⟩ := y
    rw [q2] at p
    simp only at p
    by_cases hz : qs.length ≤ 15
    case neg => rw [if_neg hz] at p; exact p.elim
    rw [if_pos hz] at p
    simp only at p
    obtain ⟨keys, k1, k2, k3, k4⟩ := unpair_ok rps q1
    obtain ⟨x2, s2, r2⟩ := asDs_ok s1 k4 q2
    have hps : ps = (keys.zip (ps.map (·.2))).map fun kv => (kV kv.1, kv.2) := by
      have hl1 : ps.length = keys.length := by
        have := congrArg List.length k3
        simpa using this
      apply List.ext_getElem?
      intro i
      by_cases hi : i < ps.length
      · have h3 : (ps.map (·.1))[i]? = (keys.map kV)[i]? := by rw [k3]
        rw [List.getElem?_map, List.getElem?_map, List.getElem?_eq_getElem hi, List.getElem?_eq_getElem (by omega)] at h3
        simp only [Option.map_some, Option.some.injEq] at h3
        rw [List.getElem?_map, List.getElem?_eq_getElem hi, List.getElem?_eq_getElem (by simp; omega), Option.map_some, List.getElem_zip, List.getElem_map, ← h3]
      · rw [List.getElem?_eq_none (by omega), List.getElem?_eq_none (by simp; omega)]
    refine ⟨keys.zip (ps.map (·.2)), hps, by simp; omega, ?_⟩
    have x3 := (toD (e1.trans x2)).poke (o := .dK (mergeK [] (keys.zip (ps.map (·.2))))) (.inr rfl)
    obtain ⟨s3, g3⟩ := s2.poke (o := .dK (mergeK [] (keys.zip (ps.map (·.2))))) (D := D) (.inr rfl)
    obtain ⟨ee, ss, nav, g⟩ := adopt_base s hD x3 s3
    have rr : RDk Y (av fg ι1 Lb) (upd H1 D (.dK (mergeK [] (keys.zip (ps.map (·.2)))))) (mergeD [] ((qs.map (·.1)).zip ds)) (mergeK [] (keys.zip (ps.map (·.2)))) :=
      RDk.merge (zip_ok (by simp [k1]) (fun i => by rw [List.getElem?_map, Option.map_map]; exact k2 i) ((r2.grow g3).grow g)) .nil
    exact p ι1 _ ee ss (.ref D) (RD.dct upd_same nav rr)
end
end EV

set_option maxRecDepth 100000
set_option maxHeartbeats 4000000
namespace EV
open PySem L2 PyProof.Rows
def isLoc (sc : Scope) (x : Str) : Bool := match sc.names.lookup x with
  | some .local => true
  | _ => false
def isFunK (k : ScopeKind) : Bool := match k with
  | .function => true
  | _ => false
/-- the names that are stored apart, in a function -/
def swpNames (sc : Scope) (line : Nat) (ts : List Expr) : List Str := ts.filterMap fun
    | .Name id pos => if isLoc sc id && pos.line == line then some id else none
    | _ => none
def lineOf (ts : List Expr) : Nat := (ts.head?.map (·.pos.line)).getD 0
def isStar : Expr → Bool
  | .Starred .. => true
  | _ => false
theorem isLoc_eq (env : PySem.Env) (id : Str) : (env.kindOf id == some NameKind.local) = isLoc env.scope id := by
  unfold isLoc Env.kindOf
  split <;> rename_i h
  · rw [h]; rfl
  · cases q : env.scope.names.lookup id with
    | none => rfl
    | some k =>
      cases k <;> first | rfl | exact absurd q h
def nmOf (env : PySem.Env) (line : Nat) : Expr → Option Str
  | .Name id pos => if env.kindOf id == some NameKind.local && pos.line == line then some id else none
  | _ => none
theorem names_eq (env : PySem.Env) (line : Nat) (ts : List Expr) : ts.filterMap (nmOf env line) = swpNames env.scope line ts := by
  unfold swpNames
  congr 1
  funext e
  cases e <;> first | rfl | (dsimp only [nmOf]; rw [isLoc_eq])
def swpF (env : PySem.Env) (ts vs : List Expr) : Sem (Option (List Str)) := do
  if !(ts.length == 2 || ts.length == 3) || vs.length != ts.length || env.blockKind != .function then return none
  if vs.any isStar then return none
  let names := ts.filterMap (nmOf env (lineOf ts))
  if names.length != ts.length || names.eraseDups.length != names.length then return none
  if vs.all (foldedForSure 8) then return none
  if vs.all (constantsAlone 8) then unsupported "assign.tuple-of-constant-expressions:order-of-the-stores"
  return some names
theorem swpF_eq (env : PySem.Env) (ts vs : List Expr) (k1 k2 : Nat) (p1 p2 : Pos) : swappedStores [.Tuple ts k1 p1] (.Tuple vs k2 p2) env = swpF env ts vs := by
  rfl
theorem fun_block {env : PySem.Env} (h : isFunK env.scope.kind = true) : (env.blockKind != ScopeKind.function) = false := by
  unfold Env.blockKind
  cases q : env.scope.kind <;> rw [q] at h <;> first | rfl | cases h
/-- what swappedStores tells, where it is known -/
def swpB (sc : Scope) (ts vs : List Expr) : Option (List Str) :=
  if (ts.length == 2 || ts.length == 3) && vs.length == ts.length && isFunK sc.kind && !(vs.any isStar) && ((swpNames sc (lineOf ts) ts).length == ts.length) && ((swpNames sc (lineOf ts) ts).eraseDups.length == (swpNames sc (lineOf ts) ts).length) && !(vs.all (foldedForSure 8)) && !(vs.all (constantsAlone 8)) then some (swpNames sc (lineOf ts) ts) else none
theorem swp_some {env : PySem.Env} {ts vs : List Expr} {k1 k2 : Nat} {p1 p2 : Pos} {xs : List Str} (h : swpB env.scope ts vs = some xs) : swappedStores [.Tuple ts k1 p1] (.Tuple vs k2 p2) env = pure (some xs) := by
  unfold swpB at h
  split at h
  case isFalse => cases h
  case isTrue hz =>
    cases h
    simp only [Bool.and_eq_true, Bool.not_eq_true'] at hz
    obtain ⟨⟨⟨⟨⟨⟨⟨h1, h2⟩, h3⟩, h4⟩, h5⟩, h6⟩, h7⟩, h8⟩ := hz
    have h2' : (vs.length != ts.length) = false := by rw [bne, h2]; rfl
    have h5' : ((swpNames env.scope (lineOf ts) ts).length != ts.length) = false := by rw [bne, h5]; rfl
    have h6' : ((swpNames env.scope (lineOf ts) ts).eraseDups.length != (swpNames env.scope (lineOf ts) ts).length) = false := by rw [bne, h6]; rfl
    rw [swpF_eq]
    unfold swpF
    simp only [h1, h2', fun_block h3, h4, names_eq, h5', h6', h7, h8, Bool.not_true, Bool.or_self, Bool.false_eq_true, if_false]
/-- no such stores -/
def swpN (sc : Scope) (t v : Expr) : Bool := match t, v with
  | .Tuple ts _ _, .Tuple vs _ _ => !(ts.length == 2 || ts.length == 3) || vs.length != ts.length || vs.any isStar || (swpNames sc (lineOf ts) ts).length != ts.length || vs.all (foldedForSure 8)
  | .Tuple _ _ _, _ => noTupV v
  | .List _ _, _ => noTupV v
  | _, _ => true
where noTupV (e : Expr) : Bool := match e with
  | .Tuple _ _ _ => false
  | _ => true
theorem swp_nil {env : PySem.Env} {ts vs : List Expr} {k1 k2 : Nat} {p1 p2 : Pos} (h : swpN env.scope (.Tuple ts k1 p1) (.Tuple vs k2 p2) = true) : swappedStores [.Tuple ts k1 p1] (.Tuple vs k2 p2) env = pure none := by
  simp only [swpN, Bool.or_eq_true] at h
  rw [swpF_eq]
  unfold swpF
  by_cases q1 : (!(ts.length == 2 || ts.length == 3) || vs.length != ts.length || env.blockKind != ScopeKind.function) = true
  · simp only [q1, if_true]
  · have q1' := q1
    simp only [Bool.or_eq_true, not_or] at q1
    by_cases q2 : vs.any isStar = true
    · simp only [q2, if_true, ite_self]
    · have q2' : vs.any isStar = false := by simpa using q2
      by_cases q3 : ((swpNames env.scope (lineOf ts) ts).length != ts.length) = true
      · simp only [names_eq, q3, Bool.true_or, if_true, ite_self]
      · have h7 : vs.all (foldedForSure 8) = true := by
          rcases h with (((h | h) | h) | h) | h
          · exact absurd h q1.1.1
          · exact absurd h q1.1.2
          · exact absurd h q2
          · exact absurd h q3
          · exact h
        simp only [h7, if_true, ite_self]
theorem swp_ok {env : PySem.Env} {t v : Expr} (h : swpN env.scope t v = true) : swappedStores [t] v env = pure none := by
  cases t with
  | Tuple ts k1 p1 =>
    cases v with
    | Tuple vs k2 p2 => exact swp_nil h
    | _ => rfl
  | List ts p1 =>
    cases v with
    | Tuple vs k2 p2 => cases h
    | _ => rfl
  | _ => cases v <;> rfl
section
variable {Y : Lay} {X : Cx} {pos : Pos}
theorem setAll_ok {fg : Addr → Prop} {ι : List Addr} {L : List Obj} {H : Hp} : ∀ {is : List Nat} {ws : List W} {vs : List V} {ρ ρ' : Env} {σ : L2.St}, RWs Y fg ι L H ws vs → RSl Y fg ι L H ρ σ → setAll is ws ρ = some ρ' → RSl Y fg ι L H ρ' ((is.zip vs).foldl (fun σ p => σ.set p.1 (some p.2)) σ)
  | [], _, _, ρ, ρ', σ, .nil, r, e => by cases e; exact r
  | [], _, _, _, _, _, .cons _ _, _, e => by cases e
  | _ :: _, _, _, _, _, _, .nil, _, e => by cases e
  | i :: is, _, _, ρ, ρ', σ, .cons rw_ rs, r, e => by
    simp only [setAll] at e
    simp only [List.zip_cons_cons, List.foldl_cons]
    exact setAll_ok rs (r.set i rw_) e
theorem par_rd (P : Pr) {xs : List IE} {is : List Nat} {w : WX} {D : Ends} {σ : L2.St} {H : Hp} (h : rdS Y (eS P (.par is xs)) w D σ H) : rdA Y (eEs P xs) w σ H fun vs H1 => vs.length = is.length ∧ D.nx ((is.zip vs).foldl (fun σ p => σ.set p.1 (some p.2)) σ) H1 := by
  obtain ⟨fg, ι, L, ρ, s, r, p⟩ := h
  simp only [eS] at p
  refine ⟨fg, ι, L, ρ, s, r, (p.st r).mono (fun a ι1 L1 H1 e s1 p1 vs rv => ?_) fun _ _ _ z => z⟩
  cases q : setAll is a ρ with
  | none => rw [q] at p1; exact p1.elim
  | some ρ' =>
    rw [q] at p1
    refine ⟨?_, p1.nx s1 (setAll_ok rv (r.ext e) q)⟩
    have hl : ∀ {is : List Nat} {ws : List W} {ρ ρ' : Env}, setAll is ws ρ = some ρ' → ws.length = is.length := by
      intro is
      induction is with
      | nil => intro ws ρ ρ' e; cases ws with
        | nil => rfl
        | cons _ _ => cases e
      | cons i is ih => intro ws ρ ρ' e; cases ws with
        | nil => cases e
        | cons w ws => rw [List.length_cons, List.length_cons, ih e]
    rw [rv.len, hl q]
theorem js_par2 (P : Pr) (hc : X.calm = true) (hN : X.N.Nodup) {i j : Nat} {x y : Str} {a b : Expr} {px py pt pt2 : Pos} {kt k2 : Nat} {xs : List IE} (hi : X.N[i]? = some x) (hj : X.N[j]? = some y) (hij : i ≠ j) (hx : X.env.scope.names.lookup x = some .local) (hy : X.env.scope.names.lookup y = some .local)
    (ha : JA Y X [a, b] (eEs P xs)) (hw : swpB X.env.scope [.Name x px, .Name y py] [a, b] = some [x, y]) : JS Y X (.Assign [.Tuple [.Name x px, .Name y py] kt pt] (.Tuple [a, b] k2 pt2) pos) (eS P (.par [i, j] xs)) := by
  intro w tk
  refine PS.imp (ps_par hc hN hi hj hij hx hy (ha w tk) (swp_some hw) rfl) fun D σ H h => ?_
  obtain ⟨fg, ι, L, ρ, s, r, p⟩ := par_rd P h
  refine ⟨fg, ι, L, ρ, s, r, p.mono (fun a ι1 L1 H1 e s1 k vs rv => ?_) fun _ _ _ z => z⟩
  obtain ⟨hl, q⟩ := k vs rv
  match vs, hl, q with
  | [v, w], _, q => exact ⟨v, w, rfl, q⟩
theorem js_par3 (P : Pr) (hc : X.calm = true) (hN : X.N.Nodup) {i j l : Nat} {x y z : Str} {a b c : Expr} {px py pz pt pt2 : Pos} {kt k2 : Nat} {xs : List IE} (hi : X.N[i]? = some x) (hj : X.N[j]? = some y) (hl : X.N[l]? = some z) (hij : i ≠ j) (hil : i ≠ l) (hjl : j ≠ l) (hx : X.env.scope.names.lookup x = some .local) (hy : X.env.scope.names.lookup y = some .local) (hz : X.env.scope.names.lookup z = some .local)
    (ha : JA Y X [a, b, c] (eEs P xs)) (hw : swpB X.env.scope [.Name x px, .Name y py, .Name z pz] [a, b, c] = some [x, y, z]) : JS Y X (.Assign [.Tuple [.Name x px, .Name y py, .Name z pz] kt pt] (.Tuple [a, b, c] k2 pt2) pos) (eS P (.par [i, j, l] xs)) := by
  intro w tk
  refine PS.imp (ps_par3 hc hN hi hj hl hij hil hjl hx hy hz (ha w tk) (swp_some hw) rfl) fun D σ H h => ?_
  obtain ⟨fg, ι, L, ρ, s, r, p⟩ := par_rd P h
  refine ⟨fg, ι, L, ρ, s, r, p.mono (fun a ι1 L1 H1 e s1 k vs rv => ?_) fun _ _ _ z => z⟩
  obtain ⟨hl, q⟩ := k vs rv
  match vs, hl, q with
  | [u, v, w], _, q => exact ⟨u, v, w, rfl, q⟩
end
end EV

set_option maxRecDepth 100000
set_option maxHeartbeats 4000000
namespace EV
open PySem L2 PyProof.Rows
section
variable {Y : Lay} {X : Cx} {pos p p2 : Pos} {e : Expr}
/-- a class of exceptions that keep one value in a field: made -/
def tMkX (C : Addr) (f : Str) (ta : TA) : L2.St → Hp → XK → Prop := fun σ H Q => ta σ H fun vs H1 => ∃ v, vs = [v] ∧ ∀ d, H1 d = none → Q (.ref C) (some d) (upd H1 d (.xd [(f, v)]))
theorem js_raise (P : Pr) (hc : X.calm = true) {c : Nat} {C : Addr} {f x : Str} {y : IE} (hC : Y.cls c = some C) (hf : Y.ef c = some f) (hs : noStar1 e = true) (he : JE Y X e (eE P y))
    (mk : ∀ {ta : TA}, PA X [e] ta → PMk X (.Call (.Name x p) [e] [] p2) (tMkX C f ta)) : JS Y X (.Raise (some (.Call (.Name x p) [e] [] p2)) none pos) (eS P (.raise c y)) := by
  intro w tk
  refine PS.imp (ps_raise hc tk (mk (pa_cons (he w tk) pa_nil (star1 hs)))) fun D σ H h => ?_
  obtain ⟨fg, ι, L, ρ, s, r, p⟩ := h
  simp only [eS] at p
  refine rdS.one s r p fun u ι1 L1 H1 v e1 s1 r1 rv p1 => ⟨v, rfl, fun d hd => ?_⟩
  cases q : asD u L1 with
  | none => rw [q] at p1; exact p1.elim
  | some z =>
    obtain ⟨dd, L2⟩ := z
    rw [q] at p1
    obtain ⟨x2, s2, r2⟩ := asD_ok s1 rv q
    obtain ⟨x3, s3⟩ := s2.laid (.xd [(f, v)]) hd
    exact p1 (.ref C) (some d) ι1 _ σ (x2.trans x3) s3 ((r1.ext x2).ext x3) ⟨C, hC, rfl, d, f, v, rfl, hf, upd_same, r2.grow x3.grow⟩
theorem js_raiseT (P : Pr) (hc : X.calm = true) {c : Nat} {C : Addr} {e : Expr} (hC : Y.cls c = some C) (mk : PMk X e (fun _ H Q => Q (.ref C) none H)) : JS Y X (.Raise (some e) none pos) (eS P (.raiseT c)) := by
  intro w tk
  refine PS.imp (ps_raise hc tk mk) fun D σ H h => ?_
  obtain ⟨fg, ι, L, ρ, s, r, p⟩ := h
  simp only [eS] at p
  exact p (.ref C) none ι H σ .refl s r ⟨C, hC, rfl, trivial⟩
end
/-- what an except suite gives: a the exception, i its name's place -/
def rdH (Y : Lay) (c : Nat) (h : HE) (i : Nat) (a : Addr) (cls : Value) (dx : Option Addr) : TE := fun σ H Q => ∃ fg ι L arg r, Sim Y fg ι L H ∧ σ[i]? = some (some (.ref a)) ∧ RX Y fg ι L H ⟨c, some arg⟩ cls dx ∧ eH h (some arg) = some r ∧ ∀ v, RD Y (av fg ι L) H r v → Q v H
section
variable {Y : Lay} {X : Cx} {pos p : Pos} {e l r : Expr} {a : Addr} {oe : PySem.Obj} {cls : Value} {dx : Option Addr} {pn : List (Addr × PySem.Obj)} {c i : Nat}
theorem jh_con {d : D} {v : V} (h : PE (X.suite a ((a, oe) :: pn)) e (tC v)) (hd : Still Y d v) : PE (X.suite a ((a, oe) :: pn)) e (rdH Y c (.con d) i a cls dx) :=
  PE.imp h fun σ H Q z => by
    obtain ⟨fg, ι, L, arg, r, s, _, _, e, k⟩ := z
    simp only [eH, Option.some.injEq] at e
    subst e
    exact k v (hd _ _)
theorem jh_arg {C : Addr} {f n : Str} (hC : Y.cls c = some C) (hf : Y.ef c = some f) (T : XfC X.K C) (hno : PySem.W.findIn X.K (.ref C) f = some none) (hz : Zc cls dx oe) (hfl : ∃ vs, oe.data = .fields vs)
    (hN : X.N[i]? = some n) (hv : Vis X.env.scope n) (hd : (n == ("__debug__" : Str)) = false) (hcd : (n == ("__classdict__" : Str)) = false) : PE (X.suite a ((a, oe) :: pn)) (.Attribute (.Name n p) f pos) (rdH Y c .arg i a cls dx) := by
  have hn : PE (X.suite a ((a, oe) :: pn)) (.Name n p) (tVar i) := pe_var (X := X.suite a ((a, oe) :: pn)) hN hv hd hcd
  refine PE.imp (pe_xf T hno hz hfl hn rfl) fun σ H Q z => ?_
  obtain ⟨fg, ι, L, arg, r, s, hs, rx, e, k⟩ := z
  simp only [eH, Option.some.injEq] at e
  subst e
  obtain ⟨C', h1, h2, h3⟩ := rx
  rw [hC] at h1; cases h1
  obtain ⟨dd, f', v, k1, k2, k3, k4⟩ := h3
  rw [hf] at k2; cases k2
  exact ⟨.ref a, hs, rfl, h2, dd, _, v, k1, k3, by simp [List.lookup], k v k4⟩
theorem jh_plus {x y : HE} (hl : PE (X.suite a ((a, oe) :: pn)) l (rdH Y c x i a cls dx)) (hr : PE (X.suite a ((a, oe) :: pn)) r (rdH Y c y i a cls dx)) : PE (X.suite a ((a, oe) :: pn)) (.BinOp l .Add r pos) (rdH Y c (.plus x y) i a cls dx) := by
  refine PE.imp (pe_op op_add_str hl hr) fun σ H Q z => ?_
  obtain ⟨fg, ι, L, arg, r, s, hs, rx, e, k⟩ := z
  simp only [eH, Option.bind_eq_some_iff] at e
  obtain ⟨p1, e1, q1, e2, e3⟩ := e
  refine ⟨fg, ι, L, arg, p1, s, hs, rx, e1, fun v1 r1 => ⟨fg, ι, L, arg, q1, s, hs, rx, e2, fun v2 r2 => ?_⟩⟩
  split at e3
  · split at e3
    · rename_i s1 s2 hz
      cases e3
      cases r1; cases r2
      refine ⟨_, _, rfl, rfl, by rw [S_length, S_length, ← sz_eq]; exact hz, ?_⟩
      rw [S_append]
      exact k _ (.str _)
    · cases e3
  · cases e3
def rRep (Y : Lay) : List V → Hp → VK → Prop := fun xs H Q => ∃ fg ι L d t v, reprO d = some t ∧ xs = [v] ∧ PK Y fg ι L H d v ∧ Q (.str (S t)) H
theorem cr_rep {X : Cx} (hgu : X.A.guards = some []) (hu : X.A.units + 100 < cLine) (hK : Y.K = X.K) : CallR X (.builtin "repr") (rRep Y) := by
  intro pins s σ H xs us Q I r h
  obtain ⟨fg, ι, L, d, t, v, e, hx, p, q⟩ := h
  exact call_reprD (Y := Y) (fg := fg) (ι := ι) (L := L) hgu hu hK e pins s σ H xs us Q I r ⟨v, hx, p, q⟩
theorem jh_rep {x : HE} (hgu : X.A.guards = some []) (hu : X.A.units + 100 < cLine) (hK : Y.K = X.K) (hg : Gl X "repr") (hm : X.mg "repr" = none) (hs : noStar1 e = true) (he : PE (X.suite a ((a, oe) :: pn)) e (rdH Y c x i a cls dx)) :
    PE (X.suite a ((a, oe) :: pn)) (.Call (.Name "repr" p) [e] [] pos) (rdH Y c (.rep x) i a cls dx) := by
  have cr : CallR (X.suite a ((a, oe) :: pn)) (.builtin "repr") (rRep Y) := cr_rep (X := X.suite a ((a, oe) :: pn)) hgu hu hK
  have hg' : Gl (X.suite a ((a, oe) :: pn)) "repr" := hg
  refine PE.imp (pe_callB cr hg' hm (bn_boot .repr) (pa_cons he pa_nil (star1 hs)) (by decide) (by decide) (star1 hs) (star_any rfl)) fun σ H Q z => ?_
  obtain ⟨fg, ι, L, arg, r, s, hs, rx, e, k⟩ := z
  simp only [eH, Option.bind_eq_some_iff, Option.map_eq_some_iff] at e
  obtain ⟨p1, e1, t, e2, rfl⟩ := e
  exact ⟨fg, ι, L, arg, p1, s, hs, rx, e1, fun v1 r1 => ⟨fg, ι, L, p1, t, v1, e2, rfl, PK.of r1, k _ (.str _)⟩⟩
end
section
variable {Y : Lay} {X : Cx} {pos np pos' rp : Pos} {body : List Stmt} {he : Expr}
/-- what is known of the class that a clause names -/
structure CatchFact (P : Pr) (Y : Lay) (X : Cx) (x : Str) (c : Nat) (cv : Value) : Prop where
  nm : Names X x cv
  exm : ∀ c1 C1, Y.cls c1 = some C1 → PySem.W.exmOne X.K (.ref C1) cv = some (P.sub c1 c)
theorem js_try_as (P : Pr) (hst : X.stack = X.env :: X.outer) (hfr : X.env.frame = some X.env.locals) (hN : X.N.Nodup) {i c : Nat} {n x : Str} {cv : Value} {h : HE} {xb : List IS} (hi : X.N[i]? = some n) (hln : X.env.kindOf n = some .local) (hc : CatchFact P Y X x c cv)
    (hb : ∀ (pn : List (Addr × PySem.Obj)) (xe : Value → Shared → Prop), PassesOwn (model X.prog X.w) X.A X.env xe → JB Y (X.tr pn xe) body (eB P xb))
    (hh : ∀ (a : Addr) (oe : PySem.Obj) (cls : Value) (d : Option Addr) (pn : List (Addr × PySem.Obj)), Zc cls d oe → (∃ vs, oe.data = .fields vs) → PE (X.suite a ((a, oe) :: pn)) he (rdH Y c h i a cls d)) :
    JS Y X (.Try body [.ExceptHandler (some (.Name x np)) (some n) [.Return (some he) rp] pos'] [] [] pos) (eS P (.try_ xb c (some i) h)) := by
  intro w tk
  refine PS.imp (ps_try_as (tb := fun W => rdS Y (eB P xb) W) (ts := fun a cls d => tRet (rdH Y c h i a cls d)) hst hfr hN hi hln hc.nm tk (fun W pn xe tw ow => hb pn xe ow W tw)
    (fun a oe cls d pn hz hf => pss_one (ps_ret (hh a oe cls d pn hz hf)))) fun D σ H hr => ?_
  obtain ⟨fg, ι, L, ρ, s, r, p⟩ := hr
  simp only [eS] at p
  refine ⟨fg, ι, L, ρ, s, r, ?_⟩
  cases q : eB P xb ρ L with
  | bad => rw [q] at p; exact p.elim
  | ok f ρ1 L1 => rw [q] at p; exact p
  | err xc ρ1 L1 =>
    rw [q] at p
    simp only at p
    intro cls d ι1 H1 σ1 e1 s1 r1 rx
    have rx0 := rx
    obtain ⟨C1, h1, h2, h3⟩ := rx
    subst h2
    refine ⟨P.sub xc.c c, hc.exm _ _ h1, fun hb1 a ha => ?_, fun hb0 => ?_⟩
    · rw [if_pos hb1] at p
      by_cases hcc : xc.c = c ∧ i < ρ1.length
      case neg => rw [if_neg hcc] at p; exact p.elim
      rw [if_pos hcc] at p
      obtain ⟨hcc, hlen⟩ := hcc
      cases ha2 : xc.arg with
      | none => rw [ha2] at p; exact p.elim
      | some arg =>
        rw [ha2] at p
        simp only at p
        cases hq : eH h (some arg) with
        | none => rw [hq] at p; exact p.elim
        | some rr =>
          rw [hq] at p
          have hil : i < σ1.length := by rw [← r1.len]; exact hlen
          refine ⟨fg, ι1, L1, arg, rr, s1, List.getElem?_set_self hil, ?_, hq, fun v rv => p ι1 H1 σ1 e1 s1 r1 v rv⟩
          have : xc = ⟨c, some arg⟩ := by cases xc; simp at hcc ha2; rw [hcc, ha2]
          rw [← this]
          exact rx0
    · rw [if_neg (by rw [hb0]; exact Bool.false_ne_true)] at p
      exact p _ _ ι1 H1 σ1 e1 s1 r1 rx0
theorem js_try_only (P : Pr) (hst : X.stack = X.env :: X.outer) (hfr : X.env.frame = some X.env.locals) {c : Nat} {x : Str} {cv : Value} {dr : D} {vr : V} {xb : List IS} (hc : CatchFact P Y X x c cv)
    (hb : ∀ (pn : List (Addr × PySem.Obj)) (xe : Value → Shared → Prop), PassesOwn (model X.prog X.w) X.A X.env xe → JB Y (X.tr pn xe) body (eB P xb))
    (hh : ∀ (a : Addr) (oe : PySem.Obj) (pn : List (Addr × PySem.Obj)), PE (X.suite a ((a, oe) :: pn)) he (tC vr)) (hd : Still Y dr vr) :
    JS Y X (.Try body [.ExceptHandler (some (.Name x np)) none [.Return (some he) rp] pos'] [] [] pos) (eS P (.try_ xb c none (.con dr))) := by
  intro w tk
  refine PS.imp (ps_try_only (tb := fun W => rdS Y (eB P xb) W) (ts := fun a cls d => tRet (tC vr)) hst hfr hc.nm tk (fun W pn xe tw ow => hb pn xe ow W tw)
    (fun a oe cls d pn hz hf => pss_one (ps_ret (hh a oe pn)))) fun D σ H hr => ?_
  obtain ⟨fg, ι, L, ρ, s, r, p⟩ := hr
  simp only [eS] at p
  refine ⟨fg, ι, L, ρ, s, r, ?_⟩
  cases q : eB P xb ρ L with
  | bad => rw [q] at p; exact p.elim
  | ok f ρ1 L1 => rw [q] at p; exact p
  | err xc ρ1 L1 =>
    rw [q] at p
    simp only at p
    intro cls d ι1 H1 σ1 e1 s1 r1 rx
    have rx0 := rx
    obtain ⟨C1, h1, h2, h3⟩ := rx
    subst h2
    refine ⟨P.sub xc.c c, hc.exm _ _ h1, fun hb1 a ha => ?_, fun hb0 => ?_⟩
    · rw [if_pos hb1] at p
      exact p ι1 H1 σ1 e1 s1 r1 vr (hd _ _)
    · rw [if_neg (by rw [hb0]; exact Bool.false_ne_true)] at p
      exact p _ _ ι1 H1 σ1 e1 s1 r1 rx0
end
end EV

set_option maxRecDepth 100000
set_option maxHeartbeats 4000000
namespace EV
open PySem L2 PyProof.Rows
section
variable {X : Cx} {C : CXT} {k n : Nat} {f : Addr} {fd : FuncData} {ps ks : List Str} {sp : Sp} {E : L2.St → XK} {x : Str} {p pos : Pos} {e : Expr} {es : List Expr} {kws : List Keyword} {t tk : TA} {g : List Value → List Value → List Value} {gV : List V → List V → List V}
theorem runKG {pins : List (Addr × PySem.Obj)} {σ : L2.St} {H : Hp} {s : Shared} {Q : VK} {us ws : List Value} {vs zs : List V} (F : FnG X.prog X.w X.K X.mg X.base C k f fd ps sp) (hr : Room k X.A) (hgu : X.A.guards = some []) (hb : KBn X.K fd ps n ks g gV)
    (hx : PassesAt C X σ (E σ)) (I : L2.Inv X pins σ H s) (r : Vals vs us) (rz : Vals zs ws) (l1 : vs.length = n) (l2 : zs.length = ks.length) (h : sp (gV vs zs) H Q (E σ)) : wpAny (model X.prog X.w) X.A (call (.ref f) us (ks.zip ws)) (EP X pins σ Q) X.xe s := by
  have r2 := hb.rel r rz
  refine wpAny_call (codeAny_mono (F.run X.A X.stack s H ⟨us, ks.zip ws⟩ (g us ws) (gV vs zs) Q (E σ) hr hgu I.env0 (hb.to s us ws I.kIn (r.length.symm.trans l1) (rz.length.symm.trans l2)) r2 h) fun res s' z => ?_)
  cases res with
  | error er => exact hx pins H s er s' I z
  | ok fl =>
    cases fl with
    | ret u => exact I.after z
    | _ => exact z.elim
theorem pe_callKG (F : FnG X.prog X.w X.K X.mg X.base C k f fd ps sp) (hr : Room k X.A) (hgu : X.A.guards = some []) (hg : Gl X x) (hm : X.mg x = some (.ref f)) (hk : PySem.W.keepIn X.K (.ref f) = true) (hb : KBn X.K fd ps n ks g gV) (hx : ∀ σ, PassesAt C X σ (E σ))
    (ha : PA X (e :: es) t) (hkw : L2.PK X kws tk) (hall : (backToKw pos (keywordEach kws X.env)).all (·.1.isSome) = true) (hks : (backToKw pos (keywordEach kws X.env)).filterMap (·.1) = ks)
    (hdb : (x == ("__debug__" : Str)) = false) (he : starEach (e :: es) X.env = (false, eval e X.env) :: starEach es X.env)
    (hpl : ((backTo pos (starEach (e :: es) X.env)).any (·.1) || (backToKw pos (keywordEach kws X.env)).any (·.1.isNone)) = false) :
    PE X (.Call (.Name x p) (e :: es) kws pos) (fun σ H Q => t σ H fun vs H1 => tk σ H1 fun zs H2 => vs.length = n ∧ zs.length = ks.length ∧ sp (gV vs zs) H2 Q (E σ)) := by
  refine ⟨fun pins s σ H Q I h => ?_⟩
  refine wpAny_Call_Name_kw (ld_glob I hg hm ?_ hdb)
  refine PySem.W.callWith_KW (h₀ := X.base) I.ok.mod.kin hk hall (thn (ha.run pos pins s σ H _ I h) fun us s1 ⟨vs, H1, I1, r, q⟩ => ?_) hpl he
  refine thn (hkw.run pos pins s1 σ H1 _ I1 q) fun ws s2 ⟨zs, H2, I2, rz, l1, l2, q2⟩ => ⟨I2.kIn, ?_⟩
  rw [hks]
  exact runKG F hr hgu hb (hx σ) I2 r rz l1 l2 q2
theorem kbn_of {K : PySem.W.Frag} {qual : Str} {params : Arguments} {body : List Stmt} {scope : Scope} {kws : List (Str × V)} (F : FunD K x qual params body scope [] kws f fd)
    (h : ∀ (kV doc pm : Value) (an : Option Addr) (cdv ct : Value) (us ws : List Value), us.length = n → ws.length = ks.length → bindArgs (PySem.W.fnOf x qual params body scope .none kV doc pm an cdv ct) ⟨us, ks.zip ws⟩ = pure (ps.zip (us ++ ws))) :
    KBn K fd ps n ks (fun us ws => us ++ ws) (fun vs zs => vs ++ zs) := by
  obtain ⟨oc, od, dV, kV, doc, pm, an, cdv, ct, osl, rfl, lk, hcd, hD, hK⟩ := F.ex
  rcases hD with ⟨_, rfl⟩ | ⟨e, _⟩
  · exact ⟨fun s us ws X l1 l2 => .of_eq (h kV doc pm an cdv ct us ws l1 l2), fun r1 r2 => r1.append r2⟩
  · exact absurd rfl e
end
def kwName : Keyword → Option Str
  | ⟨n, _, _⟩ => n
def kwVal : Keyword → Expr
  | ⟨_, e, _⟩ => e
/-- all are named -/
def kwB (kws : List Keyword) (ks : List Str) : Bool := decide (kws.map kwName = ks.map some)
section
variable {Y : Lay} {X : Cx} {pos : Pos} {e : Expr} {es : List Expr} {kws : List Keyword}
theorem kw_each {env : PySem.Env} : ∀ {kws : List Keyword} {ks : List Str}, kws.map kwName = ks.map some →
    (backToKw pos (keywordEach kws env)).all (·.1.isSome) = true ∧ (backToKw pos (keywordEach kws env)).filterMap (·.1) = ks ∧ (backToKw pos (keywordEach kws env)).any (·.1.isNone) = false
  | [], [], _ => ⟨rfl, rfl, rfl⟩
  | [], _ :: _, h => by simp at h
  | _ :: _, [], h => by simp at h
  | ⟨nm, v, q⟩ :: kws, k :: ks, h => by
    simp only [List.map_cons, List.cons.injEq, kwName] at h
    obtain ⟨rfl, h⟩ := h
    obtain ⟨h1, h2, h3⟩ := kw_each (env := env) h
    refine ⟨?_, ?_, ?_⟩
    · show (true && (backToKw pos (keywordEach kws env)).all (·.1.isSome)) = true
      rw [h1]; rfl
    · show k :: (backToKw pos (keywordEach kws env)).filterMap (·.1) = k :: ks
      rw [h2]
    · show (false || (backToKw pos (keywordEach kws env)).any (·.1.isNone)) = false
      rw [h3]; rfl
theorem kw_len : ∀ {kws : List Keyword} {ks : List Str}, kws.map kwName = ks.map some → kws.length = ks.length
  | kws, ks, h => by have := congrArg List.length h; simpa using this
theorem jk_nil (P : Pr) : JK Y X [] (eEs P []) := by
  intro w tk
  refine PKw.imp pk_nil fun σ H Q h => ?_
  obtain ⟨fg, ι, L, ρ, s, r, p⟩ := h
  exact Pq.ok s p _ .nil
theorem jk_cons (P : Pr) {nm : Option Str} {kpos : Pos} {x : IE} {xs : List IE} (ha : JE Y X e (eE P x)) (hb : JK Y X kws (eEs P xs)) : JK Y X (⟨nm, e, kpos⟩ :: kws) (eEs P (x :: xs)) := by
  intro w tk
  refine PKw.imp (pk_cons (ha w tk) (hb w tk)) fun σ H Q h => ?_
  obtain ⟨fg, ι, L, ρ, s, r, p⟩ := h
  simp only [eEs] at p
  refine rd.one s r p fun u ι1 L1 H1 v e1 s1 r1 rv p1 => rdA.one s1 r1 p1 fun us ι2 L2 H2 vs e2 s2 r2 rvs p2 => ?_
  exact Pq.ok s2 p2 _ (.cons (rv.ext e2) rvs)
/-- what is known of a def that is called with keywords: n places, then the names ks -/
structure FnFactK (P : Pr) (Y : Lay) (X : Cx) (x : Str) (f n : Nat) (ks : List Str) : Prop where
  ex : ∃ (fa : Addr) (fd : FuncData) (ps : List Str) (k : Nat), X.mg x = some (.ref fa) ∧ PySem.W.keepIn X.K (.ref fa) = true ∧ KBn X.K fd ps n ks (fun us ws => us ++ ws) (fun vs zs => vs ++ zs) ∧ FnG X.prog X.w X.K X.mg X.base (L2.CX X.prog X.w) k fa fd ps (spF Y (P.fn f) (n + ks.length)) ∧ Room k X.A ∧ X.A.guards = some []
theorem RWs.app {fg : Addr → Prop} {ι : List Addr} {L : List Obj} {H : Hp} : ∀ {us : List W} {vs : List V} {us' : List W} {vs' : List V}, RWs Y fg ι L H us vs → RWs Y fg ι L H us' vs' → RWs Y fg ι L H (us ++ us') (vs ++ vs')
  | _, _, _, _, .nil, h => h
  | _, _, _, _, .cons r rs, h => .cons r (RWs.app rs h)
theorem je_callk (P : Pr) {m : Bool} {xs zs : List IE} {x : Str} {f : Nat} {ks : List Str} {p : Pos} (hne : es ≠ []) (F : FnFactK P Y X x f xs.length ks) (hz : zs.length = ks.length) (hg : Gl X x) (hdb : (x == ("__debug__" : Str)) = false) (hs : noStar es = true) (hk : kws.map kwName = ks.map some) (ha : JA Y X es (eEs P xs)) (hb : JK Y X kws (eEs P zs)) :
    JE Y X (.Call (.Name x p) es kws pos) (eE P (.callk m f xs zs)) := by
  intro w tk
  obtain ⟨fa, fd, ps, k, hm, hkp, hbn, F, hr, gu⟩ := F.ex
  obtain ⟨k1, k2, k3⟩ := kw_each (pos := pos) (env := X.env) hk
  cases es with
  | nil => exact absurd rfl hne
  | cons e0 es =>
    have hs0 := hs
    unfold noStar at hs
    rw [List.all_cons, Bool.and_eq_true] at hs
    refine PE.imp (pe_callKG F hr gu hg hm hkp hbn (passAt tk) (ha w tk) (hb w tk) k1 k2 hdb (star1 hs.1) (by rw [star_any hs0, k3]; rfl)) fun σ H Q h => ?_
    obtain ⟨fg, ι, L, ρ, s, r, p⟩ := h
    simp only [eE] at p
    refine ⟨fg, ι, L, ρ, s, r, ?_⟩
    cases hq : eEs P xs ρ L with
    | bad => rw [hq] at p; exact p.elim
    | err x La => rw [hq] at p; exact p
    | ok us La =>
      rw [hq] at p
      intro ι1 H1 e1 s1 vs rv
      have p1 := Pq.on e1 p
      simp only [R.bind] at p1
      refine ⟨fg, ι1, La, ρ, s1, r.ext e1, ?_⟩
      cases hq2 : eEs P zs ρ La with
      | bad => rw [hq2] at p1; exact p1.elim
      | err x Lb => rw [hq2] at p1; exact p1
      | ok us2 Lb =>
        rw [hq2] at p1
        intro ι2 H2 e2 s2 vs2 rv2
        have p2 := Pq.on e2 p1
        have l1 : vs.length = xs.length := by rw [rv.len, eEs_len P hq]
        have l2 : vs2.length = ks.length := by rw [rv2.len, eEs_len P hq2, hz]
        exact ⟨l1, l2, call_ok s2 ((rv.ext e2).app rv2) (by rw [List.length_append, l1, l2]) p2⟩
end
end EV

set_option maxRecDepth 100000
set_option maxHeartbeats 4000000
namespace EV
open PySem L2 PyProof.Rows
mutual
def sameD : D → D → Bool
  | .non, .non => true
  | .bl a, .bl b => a == b
  | .int i, .int j => decide (i = j)
  | .str x, .str y => decide (x = y)
  | .tup xs, .tup ys => sameDs xs ys
  | .lst xs, .lst ys => sameDs xs ys
  | _, _ => false
def sameDs : List D → List D → Bool
  | [], [] => true
  | x :: xs, y :: ys => sameD x y && sameDs xs ys
  | _, _ => false
end
mutual
theorem sameD_eq : ∀ a b : D, sameD a b = true → a = b
  | .non, b, h => by cases b <;> first | rfl | (simp [sameD] at h)
  | .bl a, b, h => by cases b <;> simp [sameD] at h; rw [h]
  | .int a, b, h => by cases b <;> simp [sameD] at h; rw [h]
  | .str a, b, h => by cases b <;> simp [sameD] at h; rw [h]
  | .tup a, b, h => by
    cases b with
    | tup y => simp only [sameD] at h; rw [sameDs_eq a y h]
    | _ => simp [sameD] at h
  | .lst a, b, h => by
    cases b with
    | lst y => simp only [sameD] at h; rw [sameDs_eq a y h]
    | _ => simp [sameD] at h
  | .dct a, b, h => by simp [sameD] at h
  | .ins _ _, b, h => by simp [sameD] at h
  | .ty _, b, h => by simp [sameD] at h
  | .cls _, b, h => by simp [sameD] at h
  | .scr _, b, h => by simp [sameD] at h
theorem sameDs_eq : ∀ a b : List D, sameDs a b = true → a = b
  | [], [], _ => rfl
  | [], _ :: _, h => by simp [sameDs] at h
  | _ :: _, [], h => by simp [sameDs] at h
  | x :: xs, y :: ys, h => by
    simp only [sameDs, Bool.and_eq_true] at h
    rw [sameD_eq x y h.1, sameDs_eq xs ys h.2]
end

/-- what is known at a place of the text -/
structure Ck where
  N : List Str
  sc : Scope
  con : List (Str × D)
  blt : List Str
  fns : List (Str × Nat × Nat)
  /-- defs called with keywords: the name, the number, the places, the keywords -/
  fks : List (Str × Nat × Nat × List Str)
  /-- cells may be stored to -/
  cel : Bool
  /-- classes of exceptions: the name, the number, the field -/
  exs : List (Str × Nat × Option Str) := []
def relS (scope sc : Scope) : Scope :=
  { scope with names := scope.names.map fun (n, k) => if (k == .free && sc.kind == .function && sc.names.lookup n == some .cell) then (n, .cell) else (n, k) }
def Ck.into (c : Ck) (scope : Scope) : Ck := { c with sc := relS scope c.sc, cel := false }
structure Good (Y : Lay) (P : Pr) (X : Cx) (c : Ck) : Prop where
  N : X.N = c.N
  nd : X.N.Nodup
  sc : X.env.scope = c.sc
  calm : X.calm = true
  K : Y.K = X.K
  units : X.A.units + 100 < cLine
  gu : X.A.guards = some []
  con : ∀ x d, (x, d) ∈ c.con → ∃ u v, X.mg x = some u ∧ RelV v u ∧ Still Y d v
  blt : ∀ x ∈ c.blt, X.mg x = none
  fns : ∀ x f n, (x, f, n) ∈ c.fns → FnFact P Y X x f n
  fks : ∀ x f n ks, (x, f, n, ks) ∈ c.fks → FnFactK P Y X x f n ks
  cel : c.cel = true → ∀ x, c.sc.names.lookup x = some .cell → X.fn x = true
theorem Good.into {Y : Lay} {P : Pr} {X : Cx} {c : Ck} (g : Good Y P X c) (scope : Scope) (s : Shared) (H : Hp) (C : Addr) (cl : List (Str × Addr)) (fp : List Addr) : Good Y P (X.blk s H scope (compEnvC scope cl C X.env) fp) (c.into scope) where
  N := g.N
  nd := g.nd
  sc := by rw [show c.into scope = { c with sc := relS scope c.sc, cel := false } from rfl, ← g.sc]; rfl
  calm := g.calm
  K := g.K
  units := g.units
  gu := g.gu
  con := g.con
  blt := g.blt
  fns := fun x f n h => by
    obtain ⟨fa, fd, ps, k, r⟩ := (g.fns x f n h).ex
    exact ⟨fa, fd, ps, k, r⟩
  fks := fun x f n ks h => by
    obtain ⟨fa, fd, ps, k, r⟩ := (g.fks x f n ks h).ex
    exact ⟨fa, fd, ps, k, r⟩
  cel := fun h => by cases h

def visB (sc : Scope) (x : Str) : Bool := match sc.names.lookup x with
  | some .local => true
  | some .cell => true
  | some .free => true
  | _ => false
def stoB (c : Ck) (x : Str) : Bool := match c.sc.names.lookup x with
  | some .local => true
  | some .cell => c.cel
  | _ => false
def gloB (sc : Scope) (x : Str) : Bool := match sc.names.lookup x with
  | some .globalImplicit => true
  | _ => false
def plainN (x : Str) : Bool := !(x == ("__debug__" : Str)) && !(x == ("__classdict__" : Str)) && !decide (x = ("__name__" : Str))
theorem plainN_ok {x : Str} (h : plainN x = true) : (x == ("__debug__" : Str)) = false ∧ (x == ("__classdict__" : Str)) = false ∧ x ≠ ("__name__" : Str) := by
  unfold plainN at h
  simp only [Bool.and_eq_true, Bool.not_eq_true', decide_eq_false_iff_not] at h
  exact ⟨h.1.1, h.1.2, h.2⟩
section
variable {Y : Lay} {P : Pr} {X : Cx} {c : Ck} {x : Str}
theorem Good.vis (g : Good Y P X c) (h : visB c.sc x = true) : Vis X.env.scope x := by
  rw [g.sc]
  unfold visB at h
  unfold Vis
  split at h
  · exact .inl (by assumption)
  · exact .inr (.inl (by assumption))
  · exact .inr (.inr (by assumption))
  · cases h
theorem Good.sto (g : Good Y P X c) (h : stoB c x = true) : L2.Loc X.env.scope x ∧ (X.fn x = true ∨ X.env.scope.names.lookup x = some .local) := by
  rw [g.sc]
  unfold stoB at h
  unfold L2.Loc
  split at h
  · rename_i e; exact ⟨.inl e, .inr e⟩
  · rename_i e; exact ⟨.inr e, .inl (g.cel h _ e)⟩
  · cases h
theorem Good.glo (g : Good Y P X c) (h : gloB c.sc x = true) : Gl X x := by
  unfold Gl
  unfold gloB at h
  unfold Env.kindOf
  rw [g.sc]
  split at h
  · assumption
  · cases h
end
def constB (k : Const) (d : D) : Bool := match k with
  | .none => match d with | .non => true | _ => false
  | .bool b => match d with | .bl a => a == b | _ => false
  | .int i => match d with | .int j => decide (i = j) | _ => false
  | .str s => match d with | .str t => decide (s.cps.toList = t) | _ => false
  | _ => false
def argB (c : Ck) (x : Str) : Bool := gloB c.sc x && plainN x
def fnB (c : Ck) (x : Str) (f n : Nat) : Bool := c.fns.any fun p => decide (p.1 = x) && decide (p.2.1 = f) && decide (p.2.2 = n)
def fkB (c : Ck) (x : Str) (f n : Nat) (ks : List Str) : Bool := c.fks.any fun p => decide (p.1 = x) && decide (p.2.1 = f) && decide (p.2.2.1 = n) && decide (p.2.2.2 = ks)
def conB (c : Ck) (x : Str) (d : D) : Bool := c.con.any fun p => decide (p.1 = x) && sameD p.2 d
def bltB (c : Ck) (x : Str) : Bool := c.blt.any fun y => decide (y = x)
def ownOf (N : List Str) (vs : List Nat) : List (Str × Nat) := vs.map fun i => ((N[i]?).getD default, i)
theorem own_snd (N : List Str) : ∀ vs : List Nat, (ownOf N vs).map (·.2) = vs
  | [] => rfl
  | v :: vs => by
    have := own_snd N vs
    unfold ownOf at this ⊢
    rw [List.map_cons, List.map_cons, this]
def markB (b : Expr) : Bool := match b with
  | .Set _ _ _ => false
  | _ => true
theorem mark_ok {b : Expr} (h : markB b = true) (op : CmpOp) : behindInMarks op b = false := by
  cases b <;> first | rfl | cases h
def tvB (e : Expr) : Bool := match e with
  | .Name _ _ => true
  | .Call _ _ _ _ => true
  | .Constant _ _ _ => true
  | .Subscript _ _ _ => true
  | .Attribute _ _ _ => true
  | .BinOp _ _ _ _ => true
  | .ListComp _ _ _ _ => true
  | _ => false
theorem tv_ok {e : Expr} (h : tvB e = true) (env : PySem.Env) : ∀ whole, isTrue e env whole = (do let v ← whole; standAt e.pos; holding [v] (truthy v)) := by
  intro whole
  cases e <;> first | rfl | cases h
theorem setI_ok {e : Expr} (h : markB e = true) (env : PySem.Env) : ∀ x, foldedSetIterable e env x = pure x := by
  intro x
  cases e <;> first | rfl | cases h
theorem Still.const {Y : Lay} {k : Const} {d : D} (h : constB k d = true) {X : Cx} {j : Nat} {pos : Pos} : ∃ v, PE X (.Constant k j pos) (tC v) ∧ Still Y d v := by
  unfold constB at h
  cases k with
  | none =>
    cases d with
    | non => exact ⟨_, pe_non, fun _ _ => .non⟩
    | _ => cases h
  | bool b =>
    cases d with
    | bl a =>
      have : a = b := by simpa using h
      subst this
      exact ⟨_, pe_bl, fun _ _ => .bl a⟩
    | _ => cases h
  | int i =>
    cases d with
    | int a =>
      have : i = a := by simpa using h
      subst this
      exact ⟨_, pe_int, fun _ _ => .int i⟩
    | _ => cases h
  | str s =>
    cases d with
    | str a =>
      have : s.cps.toList = a := by simpa using h
      subst this
      exact ⟨_, pe_str, fun _ _ => .str _⟩
    | _ => cases h
  | _ => cases h
theorem Still.constA {Y : Lay} {k : Const} {d : D} (h : constB k d = true) : ∃ v, (∀ (X : Cx) (j : Nat) (pos : Pos), PE X (.Constant k j pos) (tC v)) ∧ Still Y d v := by
  unfold constB at h
  cases k with
  | none =>
    cases d with
    | non => exact ⟨_, fun _ _ _ => pe_non, fun _ _ => .non⟩
    | _ => cases h
  | bool b =>
    cases d with
    | bl a =>
      have : a = b := by simpa using h
      subst this
      exact ⟨_, fun _ _ _ => pe_bl, fun _ _ => .bl a⟩
    | _ => cases h
  | int i =>
    cases d with
    | int a =>
      have : i = a := by simpa using h
      subst this
      exact ⟨_, fun _ _ _ => pe_int, fun _ _ => .int i⟩
    | _ => cases h
  | str s =>
    cases d with
    | str a =>
      have : s.cps.toList = a := by simpa using h
      subst this
      exact ⟨_, fun _ _ _ => pe_str, fun _ _ => .str _⟩
    | _ => cases h
  | _ => cases h
mutual
def chkG (c : Ck) : Nat → Expr → Tg → Bool
  | 0, _, _ => false
  | n + 1, e, t => match t with
    | .nm i => match e with
      | .Name x _ => decide (c.N[i]? = some x) && stoB c x
      | _ => false
    | .tup ts => match e with
      | .Tuple es _ _ => noStar es && decide (es.length = ts.length) && chkGs c n es ts
      | _ => false
def chkGs (c : Ck) : Nat → List Expr → List Tg → Bool
  | 0, _, _ => false
  | n + 1, es, ts => match es, ts with
    | [], [] => true
    | e :: es, t :: ts => noStar1 e && chkG c n e t && chkGs c n es ts
    | _, _ => false
end
theorem ae_len {env : PySem.Env} : ∀ {es : List Expr}, (assignEach es env).length = es.length
  | [] => rfl
  | e :: es => by
    have := ae_len (env := env) (es := es)
    cases e <;> simp [assignEach, this]
theorem ae_cons {e : Expr} {es : List Expr} {env : PySem.Env} (h : noStar1 e = true) : assignEach (e :: es) env = (false, assign e env) :: assignEach es env := by
  cases e <;> first | rfl | cases h
theorem ae_star {env : PySem.Env} : ∀ {es : List Expr}, noStar es = true → (assignEach es env).findIdx? (·.1) = none
  | [], _ => rfl
  | e :: es, h => by
    unfold noStar at h
    rw [List.all_cons, Bool.and_eq_true] at h
    rw [ae_cons h.1, List.findIdx?_cons]
    simp only [Bool.false_eq_true, if_false, Option.map_eq_none_iff]
    exact ae_star (es := es) h.2
section
variable {Y : Lay} {P : Pr} {X : Cx} {c : Ck}
theorem chkG_ok (g : Good Y P X c) : ∀ n, (∀ e t, chkG c n e t = true → PG X e (rdG2 Y (asg t) t.slots)) ∧ (∀ es ts, chkGs c n es ts = true → PGs X es (rdGs Y (asgs ts) (slotss ts)))
  | 0 => ⟨fun e t h => by simp [chkG] at h, fun e t h => by simp [chkGs] at h⟩
  | n + 1 => by
    obtain ⟨ih1, ih2⟩ := chkG_ok g n
    refine ⟨fun e t h => ?_, fun es ts h => ?_⟩
    · cases t with
      | nm i =>
        simp only [chkG] at h
        split at h
        · simp only [Bool.and_eq_true, decide_eq_true_eq] at h
          obtain ⟨hx, hf⟩ := g.sto h.2
          have hi := h.1
          rw [← g.N] at hi
          exact jg_nm g.nd hi hx hf
        · cases h
      | tup ts =>
        simp only [chkG] at h
        split at h
        · simp only [Bool.and_eq_true, decide_eq_true_eq] at h
          exact jg_tup g.K g.calm (ih2 _ _ h.2) (by rw [ae_len]; exact h.1.2) (ae_star h.1.1)
        · cases h
    · simp only [chkGs] at h
      split at h
      · exact jg_nil
      · simp only [Bool.and_eq_true] at h
        exact jg_cons (ih1 _ _ h.1.2) (ih2 _ _ h.2) (by rw [ae_cons h.1.1, List.map_cons])
      · cases h
end
end EV

set_option maxRecDepth 100000
set_option maxHeartbeats 4000000
namespace EV
open PySem L2 PyProof.Rows
def bnGood (c : Ck) (b : Bn) : Bool := gloB c.sc (bnName b) && bltB c (bnName b) && plainN (bnName b)
def tyStr (t : Nat) : Str := (tyName t : Str)
def tyB (c : Ck) (t : Nat) (e : Expr) : Bool := decide (t < 6) && (match e with
  | .Name x _ => decide (x = tyStr t) && gloB c.sc x && bltB c x && plainN x
  | _ => false)

mutual
def chkE (c : Ck) : Nat → Expr → IE → Bool
  | 0, _, _ => false
  | n + 1, e, x => match x with
    | .var i => match e with
      | .Name id _ => decide (c.N[i]? = some id) && visB c.sc id && plainN id
      | _ => false
    | .con d => match e with
      | .Constant k _ _ => constB k d
      | .Name id _ => argB c id && conB c id d
      | _ => false
    | .bin op a b => match e with
      | .BinOp l o r _ => decide (o = bopOf op) && chkE c n l a && chkE c n r b
      | _ => false
    | .neg a => match e with
      | .UnaryOp .USub l _ => chkE c n l a
      | _ => false
    | .not a => match e with
      | .UnaryOp .Not l _ => chkE c n l a
      | _ => false
    | .and a b => match e with
      | .BoolOp .And es _ => chkBO c n .And es (.and a b)
      | _ => false
    | .or a b => match e with
      | .BoolOp .Or es _ => chkBO c n .Or es (.or a b)
      | _ => false
    | .cmp op a b => match e with
      | .Compare l [o] [r] _ => decide (o = copOf op) && markB r && chkE c n l a && chkE c n r b
      | _ => false
    | .chain op op' a b d => match e with
      | .Compare l [o, o'] [r, r'] _ => decide (o = copOf op) && decide (o' = copOf op') && markB r && markB r' && chkE c n l a && chkE c n r b && chkE c n r' d
      | _ => false
    | .ite t a b => match e with
      | .IfExp u l r _ => chkT c n u t && chkE c n l a && chkE c n r b
      | _ => false
    | .tup xs => match e with
      | .Tuple es _ _ => decide (xs.length ≤ 1000) && chkEs c n es xs
      | _ => false
    | .lst _ xs => match e with
      | .List es _ => decide (xs.length ≤ 1000) && chkEs c n es xs
      | _ => false
    | .dct xs => match e with
      | .Dict ks vs _ => decide (ks.length = vs.length) && ks.all (·.isSome) && !ks.isEmpty && decide (ks.length ≤ 15) && chkKv c n ks vs xs
      | _ => false
    | .idx a i => match e with
      | .Subscript l r _ => plainIxB r && chkE c n l a && chkE c n r i
      | _ => false
    | .slice a lo hi => match e with
      | .Subscript l (.Slice p q none _) _ => chkE c n l a && chkO c n p lo && chkO c n q hi
      | _ => false
    | .call _ f xs => match e with
      | .Call (.Name id _) es [] _ => argB c id && fnB c id f xs.length && (match es with
        | [] => (match xs with | [] => true | _ => false)
        | e0 :: es' => noStar (e0 :: es') && chkEs c n (e0 :: es') xs)
      | _ => false
    | .callk _ f xs zs => match e with
      | .Call (.Name id _) (e0 :: es) (kw0 :: kws) _ => argB c id && fkB c id f xs.length ((kw0 :: kws).filterMap kwName) && kwB (kw0 :: kws) ((kw0 :: kws).filterMap kwName) && decide (zs.length = (kw0 :: kws).length) && noStar (e0 :: es) && chkEs c n (e0 :: es) xs && chkK c n (kw0 :: kws) zs
      | _ => false
    | .bn m b xs => match b with
      | .isin t => match e with
        | .Call (.Name id _) [u, v] [] _ => decide (id = bnName (.isin t)) && bnGood c (.isin t) && tyB c t v && noStar1 u && !m && (match xs with
          | [x] => chkE c n u x
          | _ => false)
        | _ => false
      | b => match e with
        | .Call (.Name id _) (e0 :: es) [] _ => decide (id = bnName b) && bnGood c b && bnOk b && (bnMore b).isEmpty && noStar (e0 :: es) && chkEs c n (e0 :: es) xs
        | _ => false
    | .mn m b o xs => match e with
      | .Call (.Attribute l at_ apos) [] [] pos => decide (at_ = mnName b) && baseB l && (apos.endLine == pos.line) && chkE c n l o && xs.isEmpty
      | .Call (.Attribute l at_ apos) (e0 :: es) [] pos => decide (at_ = mnName b) && baseB l && decide ((e0 :: es).length < 29) && (apos.endLine == pos.line) && noStar (e0 :: es) && chkE c n l o && chkEs c n (e0 :: es) xs
      | _ => false
    | .app o x => match e with
      | .Call (.Attribute l at_ apos) [e0] [] pos => decide (at_ = ("append" : Str)) && baseB l && (apos.endLine == pos.line) && noStar1 e0 && chkE c n l o && chkE c n e0 x
      | _ => false
    | .ext o x => match e with
      | .Call (.Attribute l at_ apos) [e0] [] pos => decide (at_ = ("extend" : Str)) && baseB l && (apos.endLine == pos.line) && noStar1 e0 && chkE c n l o && chkE c n e0 x
      | _ => false
    | .comp m own tg it ifs elt => match e with
      | .ListComp eltE [⟨tgE, iterE, ifsE, a⟩] scope _ => decide (a = 0) && chkC c n own tg it ifs elt eltE tgE iterE ifsE scope
      | _ => false
/-- the parts of a comprehension -/
def chkC (c : Ck) : Nat → List Nat → Tg → It → List IE → IE → Expr → Expr → Expr → List Expr → Scope → Bool
  | 0, _, _, _, _, _, _, _, _, _, _ => false
  | n + 1, own, tg, it, ifs, elt, eltE, tgE, iterE, ifsE, scope =>
    blkC c.N c.sc scope (ownOf c.N own) && (tg.slots.all fun i => own.contains i) && markB iterE && chkI c n tgE iterE it && chkG (c.into scope) n tgE tg && chkTs (c.into scope) n ifsE ifs && chkE (c.into scope) n eltE elt
def chkEs (c : Ck) : Nat → List Expr → List IE → Bool
  | 0, _, _ => false
  | n + 1, es, xs => match es, xs with
    | [], [] => true
    | e :: es, x :: xs => noStar1 e && chkE c n e x && chkEs c n es xs
    | _, _ => false
def chkKv (c : Ck) : Nat → List (Option Expr) → List Expr → List IE → Bool
  | 0, _, _, _ => false
  | n + 1, ks, vs, xs => match ks, vs, xs with
    | [], [], [] => true
    | some k :: ks, v :: vs, x :: y :: xs => chkE c n k x && chkE c n v y && chkKv c n ks vs xs
    | _, _, _ => false
def chkK (c : Ck) : Nat → List Keyword → List IE → Bool
  | 0, _, _ => false
  | n + 1, ks, xs => match ks, xs with
    | [], [] => true
    | k :: ks, x :: xs => chkE c n (kwVal k) x && chkK c n ks xs
    | _, _ => false
def chkO (c : Ck) : Nat → Option Expr → Option IE → Bool
  | 0, _, _ => false
  | n + 1, e, x => match e, x with
    | none, none => true
    | some e, some x => chkE c n e x
    | _, _ => false
def chkBO (c : Ck) : Nat → BoolOp → List Expr → IE → Bool
  | 0, _, _, _ => false
  | n + 1, op, es, x => match es with
    | [] => false
    | [e] => chkE c n e x
    | e :: e' :: es => match op with
      | .And => (match x with
        | .and a b => chkE c n e a && chkBO c n .And (e' :: es) b
        | _ => false)
      | .Or => (match x with
        | .or a b => chkE c n e a && chkBO c n .Or (e' :: es) b
        | _ => false)
/-- a test -/
def chkT (c : Ck) : Nat → Expr → IE → Bool
  | 0, _, _ => false
  | n + 1, e, x => match e with
    | .UnaryOp .Not l _ => (match x with
      | .not a => chkT c n l a
      | _ => false)
    | .BoolOp op es _ => chkW c n op es x
    | .Compare l os rs _ => (match x with
      | .cmp op a b => (match os, rs with
        | [o], [r] => decide (o = copOf op) && markB r && chkE c n l a && chkE c n r b
        | _, _ => false)
      | .chain op op' a b d => (match os, rs with
        | [o, o'], [r, r'] => decide (o = copOf op) && decide (o' = copOf op') && markB r && markB r' && chkE c n l a && chkE c n r b && chkE c n r' d
        | _, _ => false)
      | _ => false)
    | e => tvB e && chkE c n e x
def chkW (c : Ck) : Nat → BoolOp → List Expr → IE → Bool
  | 0, _, _, _ => false
  | n + 1, op, es, x => match es with
    | [] => false
    | [e] => chkT c n e x
    | e :: e' :: es => match op with
      | .And => (match x with
        | .and a b => chkT c n e a && chkW c n .And (e' :: es) b
        | _ => false)
      | .Or => (match x with
        | .or a b => chkT c n e a && chkW c n .Or (e' :: es) b
        | _ => false)
def chkTs (c : Ck) : Nat → List Expr → List IE → Bool
  | 0, _, _ => false
  | n + 1, es, xs => match es, xs with
    | [], [] => true
    | [e], [x] => chkT c n e x
    | _, _ => false
def chkI (c : Ck) : Nat → Expr → Expr → It → Bool
  | 0, _, _, _ => false
  | n + 1, tgE, e, it => match it with
    | .enum x => (match tgE with
      | .Tuple _ _ _ => (match e with
        | .Call (.Name id _) [u] [] _ => decide (id = ("enumerate" : Str)) && argB c id && bltB c id && noStar1 u && chkE c n u x
        | _ => false)
      | _ => false)
    | .zip x y => (match tgE with
      | .Tuple _ _ _ => (match e with
        | .Call (.Name id _) [u, v] [] _ => decide (id = ("zip" : Str)) && argB c id && bltB c id && noStar1 u && noStar1 v && chkE c n u x && chkE c n v y
        | _ => false)
      | _ => false)
    | .val x => chkE c n e x
    | .rng1 x => (match e with
      | .Call (.Name id _) [u] [] _ => decide (id = ("range" : Str)) && argB c id && bltB c id && noStar1 u && chkE c n u x
      | _ => false)
    | .rng2 x y => (match e with
      | .Call (.Name id _) [u, v] [] _ => decide (id = ("range" : Str)) && argB c id && bltB c id && noStar1 u && noStar1 v && chkE c n u x && chkE c n v y
      | _ => false)
end
end EV

set_option maxRecDepth 100000
set_option maxHeartbeats 4000000
namespace EV
open PySem L2 PyProof.Rows
section
variable {Y : Lay} {P : Pr}
theorem tyStr_boot (t : Nat) (h : t < 6) : bootBuiltins (tyStr t) = some (.type (tyName t)) := by
  rcases t with _ | _ | _ | _ | _ | _ | t
  all_goals first | (simp only [tyStr, tyName]; decide +kernel) | omega
theorem Good.argv {X : Cx} {c : Ck} (g : Good Y P X c) {x : Str} (h : argB c x = true) : Gl X x ∧ (x == ("__debug__" : Str)) = false ∧ x ≠ ("__name__" : Str) := by
  unfold argB at h
  rw [Bool.and_eq_true] at h
  obtain ⟨h1, h2, h3⟩ := plainN_ok h.2
  exact ⟨g.glo h.1, h1, h3⟩
theorem Good.bltv {X : Cx} {c : Ck} (g : Good Y P X c) {x : Str} (h : bltB c x = true) : X.mg x = none := by
  unfold bltB at h
  rw [List.any_eq_true] at h
  obtain ⟨y, hy, e⟩ := h
  have : y = x := by simpa using e
  subst this
  exact g.blt y hy
theorem Good.fnv {X : Cx} {c : Ck} (g : Good Y P X c) {x : Str} {f n : Nat} (h : fnB c x f n = true) : FnFact P Y X x f n := by
  unfold fnB at h
  rw [List.any_eq_true] at h
  obtain ⟨p, hp, e⟩ := h
  simp only [Bool.and_eq_true, decide_eq_true_eq] at e
  obtain ⟨⟨rfl, rfl⟩, rfl⟩ := e
  exact g.fns _ _ _ hp
theorem Good.fkv {X : Cx} {c : Ck} (g : Good Y P X c) {x : Str} {f n : Nat} {ks : List Str} (h : fkB c x f n ks = true) : FnFactK P Y X x f n ks := by
  unfold fkB at h
  rw [List.any_eq_true] at h
  obtain ⟨p, hp, e⟩ := h
  simp only [Bool.and_eq_true, decide_eq_true_eq] at e
  obtain ⟨⟨⟨rfl, rfl⟩, rfl⟩, rfl⟩ := e
  exact g.fks _ _ _ _ hp
theorem Good.conv {X : Cx} {c : Ck} (g : Good Y P X c) {x : Str} {d : D} (h : conB c x d = true) : ∃ u v, X.mg x = some u ∧ RelV v u ∧ Still Y d v := by
  unfold conB at h
  rw [List.any_eq_true] at h
  obtain ⟨p, hp, e⟩ := h
  simp only [Bool.and_eq_true, decide_eq_true_eq] at e
  obtain ⟨rfl, e2⟩ := e
  have := sameD_eq _ _ e2
  subst this
  exact g.con _ _ hp
theorem Good.bn {X : Cx} {c : Ck} (g : Good Y P X c) {b : Bn} (h : bnGood c b = true) : Gl X (bnName b) ∧ X.mg (bnName b) = none ∧ bnName b ≠ "__name__" ∧ (bnName b == ("__debug__" : Str)) = false := by
  unfold bnGood at h
  simp only [Bool.and_eq_true] at h
  obtain ⟨h1, h2, h3⟩ := plainN_ok h.2
  exact ⟨g.glo h.1.1, g.bltv h.1.2, h3, h1⟩
theorem noStar_cons {e : Expr} {es : List Expr} (h : noStar (e :: es) = true) : noStar1 e = true ∧ noStar es = true := by
  unfold noStar at h
  rwa [List.all_cons, Bool.and_eq_true] at h
/-- all the checks, up to a depth -/
structure Sound (Y : Lay) (P : Pr) (n : Nat) : Prop where
  E : ∀ {X c}, Good Y P X c → ∀ e x, chkE c n e x = true → JE Y X e (eE P x)
  Es : ∀ {X c}, Good Y P X c → ∀ e x, chkEs c n e x = true → JA Y X e (eEs P x)
  Kv : ∀ {X c}, Good Y P X c → ∀ ks vs x pos, chkKv c n ks vs x = true → JP Y X pos ks vs (eEs P x)
  Kw : ∀ {X c}, Good Y P X c → ∀ ks x, chkK c n ks x = true → JK Y X ks (eEs P x)
  O : ∀ {X c}, Good Y P X c → ∀ e x, chkO c n e x = true → JO Y X e (eEo P x)
  BO : ∀ {X c}, Good Y P X c → ∀ op es x pos, chkBO c n op es x = true → JE Y X (.BoolOp op es pos) (eE P x)
  T : ∀ {X c}, Good Y P X c → ∀ e x, chkT c n e x = true → JT Y X e (fun ρ L => (eE P x ρ L).bind truthR)
  W : ∀ {X c}, Good Y P X c → ∀ op es x pos, chkW c n op es x = true → JW Y X (.BoolOp op es pos) (fun ρ L => (eE P x ρ L).bind truthR)
  Ts : ∀ {X c}, Good Y P X c → ∀ e x, chkTs c n e x = true → JTs Y X e (eTs P x)
  I : ∀ {X c}, Good Y P X c → ∀ tg e x, chkI c n tg e x = true → JI Y X tg e (eI P x)
  C : ∀ {X c}, Good Y P X c → ∀ own tg it ifs elt eltE tgE iterE ifsE scope, chkC c n own tg it ifs elt eltE tgE iterE ifsE scope = true →
    JI Y X tgE iterE (eI P it) ∧ BlkOk X.N X.env.scope scope (ownOf c.N own) ∧ (∀ i ∈ tg.slots, i ∈ (ownOf c.N own).map (·.2)) ∧
    (∀ (s : Shared) (H : Hp) (C : Addr) (cl : List (Str × Addr)) (fp : List Addr), PG (X.blk s H scope (compEnvC scope cl C X.env) fp) tgE (rdG2 Y (asg tg) tg.slots)) ∧
    (∀ (s : Shared) (H : Hp) (C : Addr) (cl : List (Str × Addr)) (fp : List Addr), JTs Y (X.blk s H scope (compEnvC scope cl C X.env) fp) ifsE (eTs P ifs)) ∧
    (∀ (s : Shared) (H : Hp) (C : Addr) (cl : List (Str × Addr)) (fp : List Addr), JE Y (X.blk s H scope (compEnvC scope cl C X.env) fp) eltE (eE P elt)) ∧
    ∀ x, foldedSetIterable iterE X.env x = pure x
theorem sBn {n : Nat} (S : Sound Y P n) {X : Cx} {c : Ck} (g : Good Y P X c) {m : Bool} {xs : List IE} (e : Expr) (b : Bn) (h : (match e with
        | .Call (.Name id _) (e0 :: es) [] _ => decide (id = bnName b) && bnGood c b && bnOk b && (bnMore b).isEmpty && noStar (e0 :: es) && chkEs c n (e0 :: es) xs
        | _ => false) = true) : JE Y X e (eE P (.bn m b xs)) := by
  split at h
  · simp only [Bool.and_eq_true, decide_eq_true_eq] at h
    obtain ⟨⟨⟨⟨⟨rfl, h1⟩, h2⟩, h3⟩, h4⟩, h5⟩ := h
    obtain ⟨k1, k2, k3, k4⟩ := g.bn h1
    exact je_bn P g.K g.gu g.units g.calm h2 (by simp) (by simpa using h3) k1 k2 k3 k4 h4 (S.Es g _ _ h5)
  · cases h
theorem sE {n : Nat} (S : Sound Y P n) {X : Cx} {c : Ck} (g : Good Y P X c) (e : Expr) (x : IE) (h : chkE c (n + 1) e x = true) : JE Y X e (eE P x) := by
  cases x with
  | var i =>
    simp only [chkE] at h
    split at h
    · simp only [Bool.and_eq_true, decide_eq_true_eq] at h
      obtain ⟨⟨h1, h2⟩, h3⟩ := h
      obtain ⟨k1, k2, k3⟩ := plainN_ok h3
      exact je_var P (by rw [g.N]; exact h1) (g.vis h2) k1 k2
    · cases h
  | con d =>
    simp only [chkE] at h
    split at h
    · obtain ⟨v, h1, h2⟩ := Still.const (Y := Y) (X := X) h
      exact je_con P h1 h2
    · rw [Bool.and_eq_true] at h
      obtain ⟨h1, h2, h3⟩ := g.argv h.1
      obtain ⟨u, v, k1, k2, k3⟩ := g.conv h.2
      exact je_con P (pe_glob h1 k1 k2 h2) k3
    · cases h
  | bin op a b =>
    simp only [chkE] at h
    split at h
    · simp only [Bool.and_eq_true, decide_eq_true_eq] at h
      obtain ⟨⟨rfl, h1⟩, h2⟩ := h
      exact je_bin P g.K (S.E g _ _ h1) (S.E g _ _ h2)
    · cases h
  | neg a =>
    simp only [chkE] at h
    split at h
    · exact je_neg P (S.E g _ _ h)
    · cases h
  | not a =>
    simp only [chkE] at h
    split at h
    · exact je_not P g.K (S.E g _ _ h)
    · cases h
  | and a b =>
    simp only [chkE] at h
    split at h
    · exact S.BO g _ _ _ _ h
    · cases h
  | or a b =>
    simp only [chkE] at h
    split at h
    · exact S.BO g _ _ _ _ h
    · cases h
  | cmp op a b =>
    simp only [chkE] at h
    split at h
    · simp only [Bool.and_eq_true, decide_eq_true_eq] at h
      obtain ⟨⟨⟨rfl, h0⟩, h1⟩, h2⟩ := h
      exact je_cmp P g.K g.units (S.E g _ _ h1) (S.E g _ _ h2) (mark_ok h0 _)
    · cases h
  | chain op op' a b d =>
    simp only [chkE] at h
    split at h
    · simp only [Bool.and_eq_true, decide_eq_true_eq] at h
      obtain ⟨⟨⟨⟨⟨⟨rfl, rfl⟩, h0⟩, h0'⟩, h1⟩, h2⟩, h3⟩ := h
      exact je_chain P g.K g.units (S.E g _ _ h1) (S.E g _ _ h2) (S.E g _ _ h3) (mark_ok h0 _) (mark_ok h0' _)
    · cases h
  | ite t a b =>
    simp only [chkE] at h
    split at h
    · simp only [Bool.and_eq_true] at h
      exact je_ite P (S.T g _ _ h.1.1) (S.E g _ _ h.1.2) (S.E g _ _ h.2)
    · cases h
  | tup xs =>
    simp only [chkE] at h
    split at h
    · simp only [Bool.and_eq_true, decide_eq_true_eq] at h
      exact je_tup P h.1 (S.Es g _ _ h.2)
    · cases h
  | lst m xs =>
    simp only [chkE] at h
    split at h
    · simp only [Bool.and_eq_true, decide_eq_true_eq] at h
      exact je_lst P h.1 (S.Es g _ _ h.2)
    · cases h
  | dct xs =>
    simp only [chkE] at h
    split at h
    · simp only [Bool.and_eq_true, decide_eq_true_eq, Bool.not_eq_true'] at h
      obtain ⟨⟨⟨⟨h1, h2⟩, h3⟩, h4⟩, h5⟩ := h
      exact je_dct P h1 h2 (fun z => by rw [z] at h3; cases h3) h4 (S.Kv g _ _ _ _ h5)
    · cases h
  | idx a i =>
    simp only [chkE] at h
    split at h
    · simp only [Bool.and_eq_true] at h
      exact je_idx P g.K g.units h.1.1 (S.E g _ _ h.1.2) (S.E g _ _ h.2)
    · cases h
  | slice a lo hi =>
    simp only [chkE] at h
    split at h
    · simp only [Bool.and_eq_true] at h
      exact je_slice P g.K (S.E g _ _ h.1.1) (S.O g _ _ h.1.2) (S.O g _ _ h.2)
    · cases h
  | call m f xs =>
    simp only [chkE] at h
    split at h
    · rename_i id p es pos
      simp only [Bool.and_eq_true] at h
      obtain ⟨⟨h1, h2⟩, h3⟩ := h
      obtain ⟨k1, k2, k3⟩ := g.argv h1
      have F := g.fnv h2
      cases es with
      | nil =>
        cases xs with
        | nil => exact je_call0 P F k1 k2
        | cons _ _ => cases h3
      | cons e0 es =>
        simp only [Bool.and_eq_true] at h3
        exact je_call P (by simp) F k1 k2 h3.1 (S.Es g _ _ h3.2)
    · cases h
  | callk m f xs zs =>
    simp only [chkE] at h
    split at h
    · simp only [Bool.and_eq_true, decide_eq_true_eq] at h
      obtain ⟨⟨⟨⟨⟨⟨h1, h2⟩, h3⟩, h4⟩, h5⟩, h6⟩, h7⟩ := h
      obtain ⟨k1, k2, k3⟩ := g.argv h1
      have hk := of_decide_eq_true h3
      exact je_callk P (by simp) (g.fkv h2) (by rw [h4, ← kw_len hk]) k1 k2 h5 hk (S.Es g _ _ h6) (S.Kw g _ _ h7)
    · cases h
  | bn m b xs =>
    cases b with
    | isin t =>
      simp only [chkE] at h
      split at h
      · rename_i id p u v pos
        simp only [Bool.and_eq_true, decide_eq_true_eq, Bool.not_eq_true'] at h
        obtain ⟨⟨⟨⟨⟨rfl, h1⟩, h2⟩, h3⟩, rfl⟩, h4⟩ := h
        obtain ⟨k1, k2, k3, k4⟩ := g.bn h1
        split at h4
        · rename_i x
          unfold tyB at h2
          rw [Bool.and_eq_true, decide_eq_true_eq] at h2
          obtain ⟨ht, h2⟩ := h2
          split at h2
          · simp only [Bool.and_eq_true, decide_eq_true_eq] at h2
            obtain ⟨⟨⟨rfl, q1⟩, q2⟩, q3⟩ := h2
            obtain ⟨n1, n2, n3⟩ := plainN_ok q3
            exact je_isin P g.K g.gu g.units g.calm ht k1 k2 h3 rfl (S.E g _ _ h4) (pe_bltn (g.glo q1) (g.bltv q2) (tyStr_boot t ht) rfl n3 n1)
          · cases h2
        · cases h4
      · cases h
    | _ => simp only [chkE] at h; exact sBn S g e _ h
  | mn m b o xs =>
    simp only [chkE] at h
    split at h
    · simp only [Bool.and_eq_true, decide_eq_true_eq, List.isEmpty_iff] at h
      obtain ⟨⟨⟨⟨rfl, h1⟩, h2⟩, h3⟩, rfl⟩ := h
      exact je_mn0 P g.K h1 h2 (S.E g _ _ h3)
    · simp only [Bool.and_eq_true, decide_eq_true_eq] at h
      obtain ⟨⟨⟨⟨⟨⟨rfl, h1⟩, h2⟩, h3⟩, h4⟩, h5⟩, h6⟩ := h
      exact je_mn P g.K (by simp) h1 h2 h3 h4 (S.E g _ _ h5) (S.Es g _ _ h6)
    · cases h
  | app o x =>
    simp only [chkE] at h
    split at h
    · simp only [Bool.and_eq_true, decide_eq_true_eq] at h
      obtain ⟨⟨⟨⟨⟨rfl, h1⟩, h2⟩, h3⟩, h4⟩, h5⟩ := h
      exact je_app P h1 h2 h3 (S.E g _ _ h4) (S.E g _ _ h5)
    · cases h
  | ext o x =>
    simp only [chkE] at h
    split at h
    · simp only [Bool.and_eq_true, decide_eq_true_eq] at h
      obtain ⟨⟨⟨⟨⟨rfl, h1⟩, h2⟩, h3⟩, h4⟩, h5⟩ := h
      exact je_ext P h1 h2 h3 (S.E g _ _ h4) (S.E g _ _ h5)
    · cases h
  | comp m own tg it ifs elt =>
    simp only [chkE] at h
    split at h
    · simp only [Bool.and_eq_true, decide_eq_true_eq] at h
      obtain ⟨rfl, h⟩ := h
      obtain ⟨h1, h2, h3, h4, h5, h6, h7⟩ := S.C g _ _ _ _ _ _ _ _ _ _ h
      have := je_comp (pos := by assumption) P g.calm g.nd (m := m) h1 h2 h3 h4 h5 h6 h7
      rw [own_snd] at this
      exact this
    · cases h
theorem sAll : ∀ n, Sound Y P n
  | 0 => ⟨fun _ _ _ h => by simp [chkE] at h, fun _ _ _ h => by simp [chkEs] at h, fun _ _ _ _ _ h => by simp [chkKv] at h, fun _ _ _ h => by simp [chkK] at h, fun _ _ _ h => by simp [chkO] at h, fun _ _ _ _ _ h => by simp [chkBO] at h,
      fun _ _ _ h => by simp [chkT] at h, fun _ _ _ _ _ h => by simp [chkW] at h, fun _ _ _ h => by simp [chkTs] at h, fun _ _ _ _ h => by simp [chkI] at h, fun _ _ _ _ _ _ _ _ _ _ _ h => by simp [chkC] at h⟩
  | n + 1 => by
    have S := sAll n
    refine ⟨fun g e x h => sE S g e x h, fun g es xs h => ?_, fun g ks vs xs pos h => ?_, fun g ks xs h => ?_, fun g e x h => ?_, fun g op es x pos h => ?_, fun g e x h => ?_, fun g op es x pos h => ?_, fun g es xs h => ?_, fun g tg e x h => ?_, fun g own tg it ifs elt eltE tgE iterE ifsE scope h => ?_⟩
    · simp only [chkEs] at h
      split at h
      · exact ja_nil P
      · simp only [Bool.and_eq_true] at h
        exact ja_cons P h.1.1 (S.E g _ _ h.1.2) (S.Es g _ _ h.2)
      · cases h
    · simp only [chkKv] at h
      split at h
      · exact jp_nil P
      · simp only [Bool.and_eq_true] at h
        exact jp_cons P (S.E g _ _ h.1.1) (S.E g _ _ h.1.2) (S.Kv g _ _ _ _ h.2)
      · cases h
    · simp only [chkK] at h
      split at h
      · exact jk_nil P
      · rename_i kk ks' xx xs'
        simp only [Bool.and_eq_true] at h
        obtain ⟨nm, ev, kp⟩ := kk
        exact jk_cons P (S.E g _ _ h.1) (S.Kw g _ _ h.2)
      · cases h
    · simp only [chkO] at h
      split at h
      · exact jo_none P
      · exact jo_some P (S.E g _ _ h)
      · cases h
    · simp only [chkBO] at h
      split at h
      · cases h
      · exact je_one P (S.E g _ _ h)
      · cases op with
        | And =>
          simp only at h
          split at h
          · rw [Bool.and_eq_true] at h
            exact je_and P g.K (S.E g _ _ h.1) (S.BO g _ _ _ _ h.2)
          · cases h
        | Or =>
          simp only at h
          split at h
          · rw [Bool.and_eq_true] at h
            exact je_or P g.K (S.E g _ _ h.1) (S.BO g _ _ _ _ h.2)
          · cases h
    · simp only [chkT] at h
      split at h
      · split at h
        · exact jt_not P (S.T g _ _ h)
        · cases h
      · exact (S.W g _ _ _ _ h).jt
      · split at h
        · split at h
          · simp only [Bool.and_eq_true, decide_eq_true_eq] at h
            obtain ⟨⟨⟨rfl, h0⟩, h1⟩, h2⟩ := h
            exact jt_cmp P g.K g.units (S.E g _ _ h1) (S.E g _ _ h2) (mark_ok h0 _)
          · cases h
        · split at h
          · simp only [Bool.and_eq_true, decide_eq_true_eq] at h
            obtain ⟨⟨⟨⟨⟨⟨rfl, rfl⟩, h0⟩, h0'⟩, h1⟩, h2⟩, h3⟩ := h
            exact jt_chain P g.K g.units (S.E g _ _ h1) (S.E g _ _ h2) (S.E g _ _ h3) (mark_ok h0 _) (mark_ok h0' _)
          · cases h
        · cases h
      · rw [Bool.and_eq_true] at h
        exact jt_val P g.K (S.E g _ _ h.2) (tv_ok h.1 _)
    · simp only [chkW] at h
      split at h
      · cases h
      · cases op with
        | And => exact jw_one_and (S.T g _ _ h)
        | Or => exact jw_one_or (S.T g _ _ h)
      · cases op with
        | And =>
          simp only at h
          split at h
          · rw [Bool.and_eq_true] at h
            exact jw_and P (S.T g _ _ h.1) (S.W g _ _ _ _ h.2)
          · cases h
        | Or =>
          simp only at h
          split at h
          · rw [Bool.and_eq_true] at h
            exact jw_or P (S.T g _ _ h.1) (S.W g _ _ _ _ h.2)
          · cases h
    · simp only [chkTs] at h
      split at h
      · exact jts_nil P
      · exact jts_one P (S.T g _ _ h)
      · cases h
    · simp only [chkI] at h
      split at h
      · split at h
        · split at h
          · simp only [Bool.and_eq_true, decide_eq_true_eq] at h
            obtain ⟨⟨⟨⟨rfl, h1⟩, h2⟩, h3⟩, h4⟩ := h
            exact ji_enum P g.K (g.argv h1).1 (g.bltv h2) h3 (S.E g _ _ h4)
          · cases h
        · cases h
      · split at h
        · split at h
          · simp only [Bool.and_eq_true, decide_eq_true_eq] at h
            obtain ⟨⟨⟨⟨⟨⟨rfl, h1⟩, h2⟩, h3⟩, h4⟩, h5⟩, h6⟩ := h
            exact ji_zip P g.K (g.argv h1).1 (g.bltv h2) h3 h4 (S.E g _ _ h5) (S.E g _ _ h6)
          · cases h
        · cases h
      · exact ji_val P g.K (S.E g _ _ h)
      · split at h
        · simp only [Bool.and_eq_true, decide_eq_true_eq] at h
          obtain ⟨⟨⟨⟨rfl, h1⟩, h2⟩, h3⟩, h4⟩ := h
          exact ji_rng1 P (g.argv h1).1 (g.bltv h2) h3 (S.E g _ _ h4)
        · cases h
      · split at h
        · simp only [Bool.and_eq_true, decide_eq_true_eq] at h
          obtain ⟨⟨⟨⟨⟨⟨rfl, h1⟩, h2⟩, h3⟩, h4⟩, h5⟩, h6⟩ := h
          exact ji_rng2 P (g.argv h1).1 (g.bltv h2) h3 h4 (S.E g _ _ h5) (S.E g _ _ h6)
        · cases h
    · simp only [chkC, Bool.and_eq_true, List.all_eq_true, List.contains_eq_mem, decide_eq_true_eq] at h
      obtain ⟨⟨⟨⟨⟨⟨h1, h2⟩, h3⟩, h4⟩, h5⟩, h6⟩, h7⟩ := h
      have hb := blkOk_by h1
      rw [← g.sc] at hb
      refine ⟨S.I g _ _ _ h4, by rw [g.N]; exact hb, by rw [own_snd]; exact h2, fun s H C cl fp => (chkG_ok (g.into scope s H C cl fp) n).1 _ _ h5, fun s H C cl fp => S.Ts (g.into scope s H C cl fp) _ _ h6, fun s H C cl fp => S.E (g.into scope s H C cl fp) _ _ h7, setI_ok h3 _⟩
end
end EV

set_option maxRecDepth 100000
set_option maxHeartbeats 4000000
namespace EV
open PySem L2 PyProof.Rows
def noComp (e : Expr) : Bool := match e with
  | .ListComp _ _ _ _ => false
  | .SetComp _ _ _ _ => false
  | .DictComp _ _ _ _ _ => false
  | _ => true
def noTupE (e : Expr) : Bool := match e with
  | .Tuple _ _ _ => false
  | _ => true
def isFun (k : ScopeKind) : Bool := match k with
  | .function => true
  | _ => false
theorem sw_none {e : Expr} (h : noComp e = true) {o : Option Expr} {l : Nat} {env : PySem.Env} : swapsWith e o l env = pure false := by
  cases e <;> first | rfl | cases h
theorem sws_none {e t : Expr} (h : noComp e = true) {l : Nat} {env : PySem.Env} : swapsWithSole [t] e l env = pure false := sw_none h
theorem swp_none {e t : Expr} (h : noTupE e = true) {env : PySem.Env} : swappedStores [t] e env = pure none := by
  cases t <;> (cases e <;> first | rfl | cases h)
theorem ae_one {t : Expr} (h : noStar1 t = true) {env : PySem.Env} : (assignEach [t] env).map (·.2) = [assign t env] := by
  rw [ae_cons h]; rfl
def lcName (c : Ck) (y : Str) (py lpos : Pos) (scope : Scope) : Bool :=
  isFun c.sc.kind && (match c.sc.names.lookup y with
    | some .local => true
    | _ => false) && (py.line == lpos.line) && !(scope.names.any fun (n, k) => n == y && (k == .local || k == .cell))
def docB (s : Stmt) : Bool := match s with
  | .Expr (.Constant (.str _) _ _) _ => true
  | _ => false
def exB (c : Ck) (x : Str) (k : Nat) (o : Option Str) : Bool := c.exs.any fun p => decide (p.1 = x) && decide (p.2.1 = k) && decide (p.2.2 = o)
/-- the field of a class -/
def fldOf (c : Ck) (x : Str) (k : Nat) : Option Str := match c.exs.find? fun p => decide (p.1 = x) && decide (p.2.1 = k) with
  | some p => p.2.2
  | none => none
def clsB (c : Ck) (x : Str) (k : Nat) : Bool := c.exs.any fun p => decide (p.1 = x) && decide (p.2.1 = k)
def chkH (c : Ck) (cx : Str) (k : Nat) (nm : Str) : Nat → Expr → HE → Bool
  | 0, _, _ => false
  | n + 1, e, h => match h with
    | .con d => (match e with
      | .Constant q _ _ => constB q d
      | _ => false)
    | .arg => (match e with
      | .Attribute (.Name m _) f _ => decide (m = nm) && exB c cx k (some f)
      | _ => false)
    | .plus a b => (match e with
      | .BinOp l .Add r _ => chkH c cx k nm n l a && chkH c cx k nm n r b
      | _ => false)
    | .rep a => (match e with
      | .Call (.Name id _) [u] [] _ => decide (id = ("repr" : Str)) && argB c id && bltB c id && noStar1 u && chkH c cx k nm n u a
      | _ => false)
def locB (c : Ck) (x : Str) : Bool := match c.sc.names.lookup x with
  | some .local => true
  | _ => false
theorem locB_ok {c : Ck} {x : Str} (h : locB c x = true) : c.sc.names.lookup x = some .local := by
  unfold locB at h
  split at h
  · assumption
  · cases h
mutual
def chkS (c : Ck) : Nat → Stmt → IS → Bool
  | 0, _, _ => false
  | n + 1, s, x => match x with
    | .asg tg e => match s with
      | .Assign [tgE] v _ => noStar1 tgE && (match v with
        | .ListComp eltE [⟨t2E, iterE, ifsE, a⟩] scope lpos => (match tgE with
          | .Name y py => (match tg with
            | .nm i => (match e with
              | .comp m own t2 it ifs elt => decide (a = 0) && decide (c.N[i]? = some y) && lcName c y py lpos scope && chkC c n own t2 it ifs elt eltE t2E iterE ifsE scope
              | _ => false)
            | _ => false)
          | _ => false)
        | v => noComp v && swpN c.sc tgE v && chkE c n v e && chkG c n tgE tg)
      | _ => false
    | .aug op i e => match s with
      | .AugAssign (.Name y _) o v _ => decide (o = bopOf op) && decide (c.N[i]? = some y) && stoB c y && chkE c n v e
      | _ => false
    | .par is xs => match s with
      | .Assign [.Tuple ts _ _] (.Tuple vs _ _) _ => (match ts, vs, is with
        | [.Name x px, .Name y py], [a, b], [i, j] => decide (c.N[i]? = some x) && decide (c.N[j]? = some y) && decide (i ≠ j) && locB c x && locB c y && decide (swpB c.sc [.Name x px, .Name y py] [a, b] = some [x, y]) && chkEs c n [a, b] xs
        | [.Name x px, .Name y py, .Name z pz], [a, b, d], [i, j, l] => decide (c.N[i]? = some x) && decide (c.N[j]? = some y) && decide (c.N[l]? = some z) && decide (i ≠ j) && decide (i ≠ l) && decide (j ≠ l) && locB c x && locB c y && locB c z && decide (swpB c.sc [.Name x px, .Name y py, .Name z pz] [a, b, d] = some [x, y, z]) && chkEs c n [a, b, d] xs
        | _, _, _ => false)
      | _ => false
    | .setI o i e => match s with
      | .Assign [.Subscript oE iE _] v _ => noComp v && noTupE v && plainIxB iE && chkE c n oE o && chkE c n iE i && chkE c n v e
      | _ => false
    | .ex e => match s with
      | .Expr v _ => noComp v && chkE c n v e
      | _ => false
    | .ret e => match s with
      | .Return (some v) _ => chkE c n v e
      | _ => false
    | .retN => match s with
      | .Return none _ => true
      | _ => false
    | .ifs t a b => match s with
      | .If u p q _ => chkT c n u t && chkB c n p a && chkB c n q b
      | _ => false
    | .for_ tg it b => match s with
      | .For tgE iterE p [] _ => markB iterE && chkI c n tgE iterE it && chkG c n tgE tg && chkB c n p b
      | _ => false
    | .wh _ t b => match s with
      | .While u p [] _ => chkT c n u t && chkB c n p b
      | _ => false
    | .pass => match s with
      | .Pass _ => true
      | _ => false
    | .brk => match s with
      | .Break _ => true
      | _ => false
    | .cont => match s with
      | .Continue _ => true
      | _ => false
    | .raise k e => match s with
      | .Raise (some (.Call (.Name x _) [v] [] _)) none _ => argB c x && noStar1 v && chkE c n v e && (match fldOf c x k with
        | some f => exB c x k (some f)
        | none => false)
      | _ => false
    | .raiseT k => match s with
      | .Raise (some (.Call (.Name x _) [.Constant (.str _) _ _] [] _)) none _ => argB c x && exB c x k none
      | _ => false
    | .try_ b k i h => match s with
      | .Try body [.ExceptHandler (some (.Name x _)) on [.Return (some he) _] _] [] [] _ => argB c x && clsB c x k && chkB c n body b && (match i with
        | some i => (match on with
          | some nm => decide (c.N[i]? = some nm) && locB c nm && plainN nm && chkH c x k nm n he h
          | none => false)
        | none => (match on with
          | some _ => false
          | none => (match h with
            | .con d => (match he with
              | .Constant q _ _ => constB q d
              | _ => false)
            | _ => false)))
      | _ => false
def chkB (c : Ck) : Nat → List Stmt → List IS → Bool
  | 0, _, _ => false
  | n + 1, ss, xs => match ss with
    | [] => (match xs with | [] => true | _ => false)
    | s :: ss => match docB s with
      | true => chkB c n ss xs
      | false => match xs with
        | [] => false
        | x :: xs => chkS c n s x && chkB c n ss xs
end
/-- making an exception that keeps a value, wherever in the def -/
def MkF (X : Cx) (C : Addr) (f x : Str) : Prop := ∀ (X' : Cx), X'.prog = X.prog → X'.w = X.w → X'.K = X.K → X'.mg = X.mg → X'.base = X.base → X'.A = X.A → ∀ (e : Expr) (ta : TA) (p p2 : Pos), noStar1 e = true → Gl X' x → PA X' [e] ta → PMk X' (.Call (.Name x p) [e] [] p2) (tMkX C f ta)
def MkT (X : Cx) (C : Addr) (x : Str) : Prop := ∀ (X' : Cx), X'.prog = X.prog → X'.w = X.w → X'.K = X.K → X'.mg = X.mg → X'.base = X.base → X'.A = X.A → ∀ (m : Str) (j : Nat) (p p2 p3 : Pos), Gl X' x → PMk X' (.Call (.Name x p) [.Constant (.str m) j p2] [] p3) (fun _ H Q => Q (.ref C) none H)
/-- what is known of a class of exceptions -/
structure ExFact (P : Pr) (Y : Lay) (X : Cx) (x : Str) (k : Nat) (o : Option Str) : Prop where
  ex : ∃ C, Y.cls k = some C ∧ X.mg x = some (.ref C) ∧ (∀ c1 C1, Y.cls c1 = some C1 → PySem.W.exmOne X.K (.ref C1) (.ref C) = some (P.sub c1 k)) ∧ match o with
    | some f => Y.ef k = some f ∧ XfC X.K C ∧ PySem.W.findIn X.K (.ref C) f = some none ∧ MkF X C f x
    | none => MkT X C x
structure GoodS (Y : Lay) (P : Pr) (X : Cx) (c : Ck) : Prop extends Good Y P X c where
  own : PassesOwn (model X.prog X.w) X.A X.env X.xe
  stk : X.stack = X.env :: X.outer
  frm : X.env.frame = some X.env.locals
  exs : ∀ x k o, (x, k, o) ∈ c.exs → ExFact P Y X x k o
theorem GoodS.tr {Y : Lay} {P : Pr} {X : Cx} {c : Ck} (g : GoodS Y P X c) (pn : List (Addr × PySem.Obj)) (xe : Value → Shared → Prop) (ow : PassesOwn (model X.prog X.w) X.A X.env xe) : GoodS Y P (X.tr pn xe) c where
  N := g.N
  nd := g.nd
  sc := g.sc
  calm := g.calm
  K := g.K
  units := g.units
  gu := g.gu
  con := g.con
  blt := g.blt
  fns := fun x f n h => by
    obtain ⟨fa, fd, ps, k, r⟩ := (g.fns x f n h).ex
    exact ⟨fa, fd, ps, k, r⟩
  fks := fun x f n ks h => by
    obtain ⟨fa, fd, ps, k, r⟩ := (g.fks x f n ks h).ex
    exact ⟨fa, fd, ps, k, r⟩
  cel := g.cel
  own := ow
  stk := g.stk
  frm := g.frm
  exs := fun x k o h => by
    obtain ⟨C, r⟩ := (g.exs x k o h).ex
    exact ⟨C, r⟩
section
variable {Y : Lay} {P : Pr} {X : Cx} {c : Ck}
theorem doc_ok {s : Stmt} {ss : List Stmt} {xs : List IS} (h : docB s = true) (k : JB Y X ss (eB P xs)) : JB Y X (s :: ss) (eB P xs) := by
  unfold docB at h
  split at h
  · exact jb_doc P k
  · cases h
theorem GoodS.exv (g : GoodS Y P X c) {x : Str} {k : Nat} {o : Option Str} (h : exB c x k o = true) : ExFact P Y X x k o := by
  unfold exB at h
  rw [List.any_eq_true] at h
  obtain ⟨p, hp, e⟩ := h
  simp only [Bool.and_eq_true, decide_eq_true_eq] at e
  obtain ⟨⟨rfl, rfl⟩, rfl⟩ := e
  exact g.exs _ _ _ hp
theorem GoodS.clsv (g : GoodS Y P X c) {x : Str} {k : Nat} (ha : argB c x = true) (h : clsB c x k = true) : ∃ C, CatchFact P Y X x k (.ref C) := by
  unfold clsB at h
  rw [List.any_eq_true] at h
  obtain ⟨p, hp, e⟩ := h
  simp only [Bool.and_eq_true, decide_eq_true_eq] at e
  obtain ⟨rfl, rfl⟩ := e
  obtain ⟨C, h1, h2, h3, h4⟩ := (g.exs _ _ _ hp).ex
  obtain ⟨k1, k2, k3⟩ := g.toGood.argv ha
  exact ⟨C, ⟨k1, k2, .inl h2⟩, h3⟩
theorem chkH_ok (g : GoodS Y P X c) {x nm : Str} {k i : Nat} (hi : X.N[i]? = some nm) (hv : Vis X.env.scope nm) (hd : (nm == ("__debug__" : Str)) = false) (hcd : (nm == ("__classdict__" : Str)) = false) {a : Addr} {oe : PySem.Obj} {cls : Value} {d : Option Addr} {pn : List (Addr × PySem.Obj)} (hz : Zc cls d oe) (hf : ∃ vs, oe.data = .fields vs) :
    ∀ n e h, chkH c x k nm n e h = true → PE (X.suite a ((a, oe) :: pn)) e (rdH Y k h i a cls d)
  | 0, _, _, h => by simp [chkH] at h
  | n + 1, e, h, hh => by
    have ih := chkH_ok g hi hv hd hcd (k := k) (x := x) (i := i) (a := a) (pn := pn) hz hf n
    cases h with
    | con dd =>
      simp only [chkH] at hh
      split at hh
      · obtain ⟨v, h1, h2⟩ := Still.const (Y := Y) (X := X.suite a ((a, oe) :: pn)) hh
        exact jh_con h1 h2
      · cases hh
    | arg =>
      simp only [chkH] at hh
      split at hh
      · simp only [Bool.and_eq_true, decide_eq_true_eq] at hh
        obtain ⟨rfl, h2⟩ := hh
        obtain ⟨C, q1, q2, q3, q4, q5, q6, q7⟩ := (g.exv h2).ex
        exact jh_arg q1 q4 q5 q6 hz hf hi hv hd hcd
      · cases hh
    | plus p q =>
      simp only [chkH] at hh
      split at hh
      · rw [Bool.and_eq_true] at hh
        exact jh_plus (ih _ _ hh.1) (ih _ _ hh.2)
      · cases hh
    | rep p =>
      simp only [chkH] at hh
      split at hh
      · simp only [Bool.and_eq_true, decide_eq_true_eq] at hh
        obtain ⟨⟨⟨⟨rfl, h1⟩, h2⟩, h3⟩, h4⟩ := hh
        exact jh_rep g.gu g.units g.K (g.toGood.argv h1).1 (g.toGood.bltv h2) h3 (ih _ _ h4)
      · cases hh
theorem chkS_ok : ∀ {X : Cx} (g : GoodS Y P X c), ∀ n, (∀ s x, chkS c n s x = true → JS Y X s (eS P x)) ∧ (∀ ss xs, chkB c n ss xs = true → JB Y X ss (eB P xs))
  | X, g, 0 => ⟨fun _ _ h => by simp [chkS] at h, fun _ _ h => by simp [chkB] at h⟩
  | X, g, n + 1 => by
    obtain ⟨ih1, ih2⟩ := chkS_ok g n
    have S := sAll (Y := Y) (P := P) n
    have go := g.toGood
    refine ⟨fun s x h => ?_, fun ss xs h => ?_⟩
    · cases x with
      | asg tg e =>
        simp only [chkS] at h
        split at h
        · rename_i tgE v pos
          rw [Bool.and_eq_true] at h
          obtain ⟨hst, h⟩ := h
          split at h
          · rename_i eltE t2E iterE ifsE a scope lpos
            split at h
            · rename_i y py
              split at h
              · rename_i i
                split at h
                · rename_i m own t2 it ifs elt
                  simp only [Bool.and_eq_true, decide_eq_true_eq] at h
                  obtain ⟨⟨⟨rfl, h1⟩, h2⟩, h3⟩ := h
                  unfold lcName at h2
                  simp only [Bool.and_eq_true, Bool.not_eq_true'] at h2
                  obtain ⟨⟨⟨q1, q2⟩, q3⟩, q4⟩ := h2
                  have hk : X.env.scope.kind = .function := by
                    rw [go.sc]
                    unfold isFun at q1
                    split at q1
                    · assumption
                    · cases q1
                  have hy : X.env.scope.names.lookup y = some .local := by
                    rw [go.sc]
                    split at q2
                    · assumption
                    · cases q2
                  obtain ⟨k1, k2, k3, k4, k5, k6, k7⟩ := S.C go _ _ _ _ _ _ _ _ _ _ h3
                  have := js_setLc (pos := lpos) (spos := pos) P go.calm go.nd (m := m) (by rw [go.N]; exact h1) hy (sw_true hk hy q3 q4) k1 k2 k3 k4 k5 k6 k7
                  rw [own_snd] at this
                  exact this
                · cases h
              · cases h
            · cases h
          · simp only [Bool.and_eq_true] at h
            obtain ⟨⟨⟨h1, h2⟩, h3⟩, h4⟩ := h
            exact js_asg P (S.E go _ _ h3) ((chkG_ok go n).1 _ _ h4) (sws_none h1) (swp_ok (by rw [go.sc]; exact h2)) (ae_one hst)
        · cases h
      | aug op i e =>
        simp only [chkS] at h
        split at h
        · simp only [Bool.and_eq_true, decide_eq_true_eq] at h
          obtain ⟨⟨⟨rfl, h1⟩, h2⟩, h3⟩ := h
          obtain ⟨hx, hf⟩ := go.sto h2
          exact js_aug P go.nd (by rw [go.N]; exact h1) hx hf (S.E go _ _ h3)
        · cases h
      | par is xs =>
        simp only [chkS] at h
        split at h
        · split at h
          · simp only [Bool.and_eq_true, decide_eq_true_eq] at h
            obtain ⟨⟨⟨⟨⟨⟨h1, h2⟩, h3⟩, h4⟩, h5⟩, h6⟩, h7⟩ := h
            exact js_par2 P go.calm go.nd (by rw [go.N]; exact h1) (by rw [go.N]; exact h2) h3 (by rw [go.sc]; exact locB_ok h4) (by rw [go.sc]; exact locB_ok h5) (S.Es go _ _ h7) (by rw [go.sc]; exact h6)
          · simp only [Bool.and_eq_true, decide_eq_true_eq] at h
            obtain ⟨⟨⟨⟨⟨⟨⟨⟨⟨⟨h1, h2⟩, h3⟩, h4⟩, h5⟩, h6⟩, h7⟩, h8⟩, h9⟩, h10⟩, h11⟩ := h
            exact js_par3 P go.calm go.nd (by rw [go.N]; exact h1) (by rw [go.N]; exact h2) (by rw [go.N]; exact h3) h4 h5 h6 (by rw [go.sc]; exact locB_ok h7) (by rw [go.sc]; exact locB_ok h8) (by rw [go.sc]; exact locB_ok h9) (S.Es go _ _ h11) (by rw [go.sc]; exact h10)
          · cases h
        · cases h
      | setI o i e =>
        simp only [chkS] at h
        split at h
        · simp only [Bool.and_eq_true] at h
          obtain ⟨⟨⟨⟨⟨h1, h2⟩, h3⟩, h4⟩, h5⟩, h6⟩ := h
          exact js_setI P h3 (S.E go _ _ h4) (S.E go _ _ h5) (S.E go _ _ h6) (sws_none h1) (swp_none h2) (ae_one rfl)
        · cases h
      | ex e =>
        simp only [chkS] at h
        split at h
        · rw [Bool.and_eq_true] at h
          exact js_ex P (S.E go _ _ h.2) (sw_none h.1)
        · cases h
      | ret e =>
        simp only [chkS] at h
        split at h
        · exact js_ret P (S.E go _ _ h)
        · cases h
      | retN =>
        simp only [chkS] at h
        split at h
        · exact js_retN P
        · cases h
      | ifs t a b =>
        simp only [chkS] at h
        split at h
        · simp only [Bool.and_eq_true] at h
          exact js_if P (S.T go _ _ h.1.1) (ih2 _ _ h.1.2) (ih2 _ _ h.2)
        · cases h
      | for_ tg it b =>
        simp only [chkS] at h
        split at h
        · simp only [Bool.and_eq_true] at h
          exact js_for P g.own go.calm (S.I go _ _ _ h.1.1.2) ((chkG_ok go n).1 _ _ h.1.2) (ih2 _ _ h.2) (setI_ok h.1.1.1 _)
        · cases h
      | wh k t b =>
        simp only [chkS] at h
        split at h
        · simp only [Bool.and_eq_true] at h
          exact js_wh P g.own (S.T go _ _ h.1) (ih2 _ _ h.2)
        · cases h
      | pass =>
        simp only [chkS] at h
        split at h
        · exact js_pass P
        · cases h
      | brk =>
        simp only [chkS] at h
        split at h
        · exact js_brk P
        · cases h
      | cont =>
        simp only [chkS] at h
        split at h
        · exact js_cont P
        · cases h
      | raise k e =>
        simp only [chkS] at h
        split at h
        · simp only [Bool.and_eq_true] at h
          obtain ⟨⟨⟨h1, h2⟩, h3⟩, h4⟩ := h
          split at h4
          · obtain ⟨C, q1, q2, q3, q4, q5, q6, q7⟩ := (g.exv h4).ex
            exact js_raise P go.calm q1 q4 h2 (S.E go _ _ h3) fun ha => q7 X rfl rfl rfl rfl rfl rfl _ _ _ _ h2 (go.argv h1).1 ha
          · cases h4
        · cases h
      | raiseT k =>
        simp only [chkS] at h
        split at h
        · rw [Bool.and_eq_true] at h
          obtain ⟨C, q1, q2, q3, q4⟩ := (g.exv h.2).ex
          exact js_raiseT P go.calm q1 (q4 X rfl rfl rfl rfl rfl rfl _ _ _ _ _ (go.argv h.1).1)
        · cases h
      | try_ b k i hE =>
        simp only [chkS] at h
        split at h
        · simp only [Bool.and_eq_true] at h
          obtain ⟨⟨⟨h1, h2⟩, h3⟩, h4⟩ := h
          obtain ⟨C, cf⟩ := g.clsv h1 h2
          have hb : ∀ (pn : List (Addr × PySem.Obj)) (xe : Value → Shared → Prop), PassesOwn (model X.prog X.w) X.A X.env xe → JB Y (X.tr pn xe) _ (eB P b) := fun pn xe ow => (chkS_ok (g.tr pn xe ow) n).2 _ _ h3
          split at h4
          · split at h4
            · simp only [Bool.and_eq_true, decide_eq_true_eq] at h4
              obtain ⟨⟨⟨p1, p2⟩, p3⟩, p4⟩ := h4
              obtain ⟨n1, n2, n3⟩ := plainN_ok p3
              rename_i nm
              have hl : X.env.scope.names.lookup nm = some .local := by
                rw [go.sc]
                unfold locB at p2
                split at p2
                · assumption
                · cases p2
              have hi := p1
              rw [← go.N] at hi
              exact js_try_as P g.stk g.frm go.nd hi hl cf hb fun a oe cls d pn hz hf => chkH_ok g hi (.inl hl) n1 n2 hz hf n _ _ p4
            · cases h4
          · split at h4
            · cases h4
            · split at h4
              · split at h4
                · obtain ⟨v, k1, k2⟩ := Still.constA (Y := Y) h4
                  exact js_try_only P g.stk g.frm cf hb (fun a oe pn => k1 _ _ _) k2
                · cases h4
              · cases h4
        · cases h
    · simp only [chkB] at h
      split at h
      · split at h
        · exact jb_nil P
        · cases h
      · split at h
        · exact doc_ok (by assumption) (ih2 _ _ h)
        · split at h
          · cases h
          · rw [Bool.and_eq_true] at h
            exact jb_cons P (ih1 _ _ h.1) (ih2 _ _ h.2)
end
end EV

set_option maxRecDepth 100000
set_option maxHeartbeats 4000000
namespace EV
open PySem L2 PyProof.Rows
/-- what the module holds of a class of exceptions, for the defs of level k -/
structure ExK (P : Pr) (Y : Lay) (prog : Program) (w : World) (K : PySem.W.Frag) (mg : Str → Option Value) (base : Heap) (k : Nat) (x : Str) (n : Nat) (o : Option Str) : Prop where
  ex : ∃ C, Y.cls n = some C ∧ mg x = some (.ref C) ∧ (∀ c1 C1, Y.cls c1 = some C1 → PySem.W.exmOne K (.ref C1) (.ref C) = some (P.sub c1 n)) ∧ match o with
    | some f => Y.ef n = some f ∧ XfC K C ∧ PySem.W.findIn K (.ref C) f = some none ∧
      ∀ X : Cx, X.prog = prog → X.w = w → X.K = K → X.mg = mg → X.base = base → Room k X.A → ∀ (e : Expr) (ta : TA) (p p2 : Pos), noStar1 e = true → Gl X x → PA X [e] ta → PMk X (.Call (.Name x p) [e] [] p2) (tMkX C f ta)
    | none => ∀ X : Cx, X.prog = prog → X.w = w → X.K = K → X.mg = mg → X.base = base → Room k X.A → ∀ (m : Str) (j : Nat) (p p2 p3 : Pos), Gl X x → PMk X (.Call (.Name x p) [.Constant (.str m) j p2] [] p3) (fun _ H Q => Q (.ref C) none H)
/-- what the module holds, for the defs of level k -/
structure Glob (Y : Lay) (P : Pr) (prog : Program) (w : World) (K : PySem.W.Frag) (mg : Str → Option Value) (base : Heap) (k : Nat) (con : List (Str × D)) (blt : List Str) (fns : List (Str × Nat × Nat)) (fks : List (Str × Nat × Nat × List Str)) (exs : List (Str × Nat × Option Str)) : Prop where
  yk : Y.K = K
  con : ∀ p ∈ con, ∃ u v, mg p.1 = some u ∧ RelV v u ∧ Still Y p.2 v
  blt : ∀ x ∈ blt, mg x = none
  exs : ∀ x n o, (x, n, o) ∈ exs → ExK P Y prog w K mg base k x n o
  fns : ∀ p ∈ fns, ∃ (fa : Addr) (fd : FuncData) (ps : List Str), mg p.1 = some (.ref fa) ∧ PySem.W.keepIn K (.ref fa) = true ∧ Binds K fd ps [] ∧ ps.length = p.2.2 ∧ FnG prog w K mg base (L2.CX prog w) k fa fd ps (spF Y (P.fn p.2.1) p.2.2)
  fks : ∀ p ∈ fks, ∃ (fa : Addr) (fd : FuncData) (ps : List Str), mg p.1 = some (.ref fa) ∧ PySem.W.keepIn K (.ref fa) = true ∧ KBn K fd ps p.2.2.1 p.2.2.2 (fun us ws => us ++ ws) (fun vs zs => vs ++ zs) ∧ FnG prog w K mg base (L2.CX prog w) k fa fd ps (spF Y (P.fn p.2.1) (p.2.2.1 + p.2.2.2.length))
section
variable {Y : Lay} {P : Pr} {prog : Program} {w : World} {K : PySem.W.Frag} {mg : Str → Option Value} {base : Heap} {k : Nat}
theorem start_ok {fg : Addr → Prop} {ι : List Addr} {L : List Obj} {H : Hp} {N : List Str} {ws : List W} {vs : List V} (r : RWs Y fg ι L H ws vs) : RSl Y fg ι L H (startE N.length ws) (L2.start N vs) := by
  have hl := r.len
  refine ⟨by unfold startE L2.start; simp [hl], fun i w e => ?_⟩
  unfold startE at e
  unfold L2.start
  have get : ∀ {ws : List W} {vs : List V} {i : Nat} {w : W}, RWs Y fg ι L H ws vs → ws[i]? = some w → ∃ v, vs[i]? = some v ∧ RW Y fg ι L H w v := by
    intro ws vs i w r
    induction r generalizing i with
    | nil => intro e; simp at e
    | cons r1 rs ih =>
      intro e
      cases i with
      | zero => simp at e; subst e; exact ⟨_, rfl, r1⟩
      | succ i => obtain ⟨v, h1, h2⟩ := ih (i := i) (by simpa using e); exact ⟨v, by simpa using h1, h2⟩
  by_cases hi : i < ws.length
  · rw [List.getElem?_append_left (by simpa using hi), List.getElem?_map] at e
    obtain ⟨w', e1, e2⟩ := Option.map_eq_some_iff.mp e
    cases e2
    obtain ⟨v, h1, h2⟩ := get r e1
    exact ⟨v, by rw [List.getElem?_append_left (by simp; omega), List.getElem?_map, h1]; rfl, h2⟩
  · rw [List.getElem?_append_right (by simpa using hi)] at e
    have := (List.mem_of_getElem? e)
    simp at this
theorem df_ok {x qual : Str} {args : Arguments} {body : List Stmt} {scope : Scope} {dvs : List V} {kws : List (Str × V)} {f : Addr} {fd : FuncData} {N ps : List Str} {con : List (Str × D)} {blt : List Str} {fns : List (Str × Nat × Nat)} {fks : List (Str × Nat × Nat × List Str)} {exs : List (Str × Nat × Option Str)} {xs : List IS} {n m : Nat}
    (G : Glob Y P prog w K mg base k con blt fns fks exs) (F : FunD K x qual args body scope dvs kws f fd) (S : FnScope N ps scope) (hn : ps.length = n) (hm : N.length = m) {fu : Nat} (h : chkB ⟨N, scope, con, blt, fns, fks, true, exs⟩ fu body xs = true) :
    FnG prog w K mg base (L2.CX prog w) (k + 1) f fd ps (spF Y (runF P m xs) n) := by
  refine fnG_of F S (fun vs H Q E h => by rw [hn]; exact h.1) fun cdv A outer s H vs Q E hr gu hsp => ?_
  have tk : Takes (cxOf (L2.CX prog w) prog w K mg base N qual scope f cdv A outer s H E) (fun c d _ H => E c d H) := L2.takes_of rfl rfl rfl rfl
  have ow : PassesOwn (model prog w) (cxOf (L2.CX prog w) prog w K mg base N qual scope f cdv A outer s H E).A (cxOf (L2.CX prog w) prog w K mg base N qual scope f cdv A outer s H E).env (cxOf (L2.CX prog w) prog w K mg base N qual scope f cdv A outer s H E).xe :=
    L2.passes_of (X := cxOf (L2.CX prog w) prog w K mg base N qual scope f cdv A outer s H E) rfl
  have g : GoodS Y P (cxOf (L2.CX prog w) prog w K mg base N qual scope f cdv A outer s H E) ⟨N, scope, con, blt, fns, fks, true, exs⟩ := by
    refine ⟨⟨rfl, S.nd, rfl, rfl, G.yk, ?_, gu, fun y d hy => G.con _ hy, G.blt, fun y j a hy => ?_, fun y j a ks hy => ?_, fun _ _ _ => rfl⟩, ow, rfl, rfl, fun y j o hy => ?_⟩
    · have := hr.un
      show (A.deeper (envOfC qual scope s.heap.objs.size f cdv)).units + 100 < cLine
      omega
    · obtain ⟨fa, fd', ps', h1, h2, h3, h4, h5⟩ := G.fns _ hy
      exact ⟨fa, fd', ps', k, h1, h2, h3, h4, h5, hr, gu⟩
    · obtain ⟨fa, fd', ps', h1, h2, h3, h4⟩ := G.fks _ hy
      exact ⟨fa, fd', ps', k, h1, h2, h3, h4, hr, gu⟩
    · obtain ⟨C, h1, h2, h3, h4⟩ := (G.exs _ _ _ hy).ex
      refine ⟨C, h1, h2, h3, ?_⟩
      cases o with
      | none => exact fun X' e1 e2 e3 e4 e5 e6 => h4 X' e1 e2 e3 e4 e5 (by rw [e6]; exact hr)
      | some f =>
        obtain ⟨q1, q2, q3, q4⟩ := h4
        exact ⟨q1, q2, q3, fun X' e1 e2 e3 e4 e5 e6 => q4 X' e1 e2 e3 e4 e5 (by rw [e6]; exact hr)⟩
  refine ⟨_, (chkS_ok g fu).2 _ _ h _ tk, ?_⟩
  obtain ⟨hl, fg, ι, L, ws, s0, r, p⟩ := hsp
  rw [← hm] at p
  refine ⟨fg, ι, L, startE N.length ws, s0, start_ok r, ?_⟩
  unfold runF at p
  cases q : eB P xs (startE N.length ws) L with
  | bad => rw [q] at p; exact p.elim
  | err x ρ' L' =>
    rw [q] at p
    exact fun c d ι' H' σ' e s r rx => p c d ι' H' e s rx
  | ok fl ρ' L' =>
    rw [q] at p
    cases fl with
    | rt v => exact fun ι' H' σ' e s r v rv => p ι' H' e s v rv
    | nx => exact fun ι' H' σ' e s r => p ι' H' e s .non .non
    | bk => exact p.elim
    | ct => exact p.elim
end
end EV

set_option maxRecDepth 100000
set_option maxHeartbeats 4000000
namespace EV
/-- the law's meaning at a script: the answer is True -/
def Says (F : Fn) (m : Nat) : Prop := ∀ ns : List Int, ns.length ≤ m → ∃ L, F [.d (.scr ns)] [] = .ok (.d (.bl true)) L
theorem callR_0 {m : Bool} {f : Fn} {L L1 : List Obj} {y : D} (h : f [] [] = .ok (.d y) L1) : callR m f [] L = .ok (.d y) L := by
  cases m <;> simp [callR, locsOf, takeL, nodupB, handed, putL, backR, backW, h]
theorem callR_d {m : Bool} {f : Fn} {L L1 : List Obj} {x y : D} (h : f [.d x] [] = .ok (.d y) L1) : callR m f [.d x] L = .ok (.d y) L := by
  cases m <;> simp [callR, locsOf, takeL, nodupB, handed, putL, backR, backW, h]
theorem callR_dd {m : Bool} {f : Fn} {L L1 : List Obj} {x x2 y : D} (h : f [.d x, .d x2] [] = .ok (.d y) L1) : callR m f [.d x, .d x2] L = .ok (.d y) L := by
  cases m <;> simp [callR, locsOf, takeL, nodupB, handed, putL, backR, backW, h]
theorem callR_ddd {m : Bool} {f : Fn} {L L1 : List Obj} {x x2 x3 y : D} (h : f [.d x, .d x2, .d x3] [] = .ok (.d y) L1) : callR m f [.d x, .d x2, .d x3] L = .ok (.d y) L := by
  cases m <;> simp [callR, locsOf, takeL, nodupB, handed, putL, backR, backW, h]
/-- a new list comes back, as data -/
theorem callR_dl {f : Fn} {L L1 : List Obj} {x y : D} {k : Nat} (h : f [.d x] [] = .ok (.loc k) L1) (hp : peek (.loc k) L1 = some y) : callR false f [.d x] L = .ok (.d y) L := by
  simp [callR, locsOf, takeL, nodupB, handed, putL, backR, backW, h, hp]
/-- a new object comes back, for one's own -/
theorem callR_own {f : Fn} {L L1 : List Obj} {x x2 : D} {k : Nat} {o : Obj} (h : f [.d x, .d x2] [] = .ok (.loc k) L1) (hp : L1[k]? = some o) (hb : o.bare = true) (hl : live o = true) : callR true f [.d x, .d x2] L = .ok (.loc L.length) (L ++ [o]) := by
  simp [callR, locsOf, takeL, nodupB, handed, putL, backR, backW, h, hp, hb, hl]
/-- one's own object is handed on -/
theorem callR_ld {m : Bool} {f : Fn} {L : List Obj} {x y : D} {n : Nat} {o o' : Obj} (hn : L[n]? = some o) (hb : o.bare = true) (h : f [.loc 0, .d x] [o] = .ok (.d y) [o']) (hb' : o'.bare = true) : callR m f [.loc n, .d x] L = .ok (.d y) (L.set n o') := by
  cases m <;> simp [callR, locsOf, takeL, nodupB, handed, putL, backR, backW, h, hn, hb, hb']
theorem callR_l {m : Bool} {f : Fn} {L : List Obj} {y : D} {n : Nat} {o o' : Obj} (hn : L[n]? = some o) (hb : o.bare = true) (h : f [.loc 0] [o] = .ok (.d y) [o']) (hb' : o'.bare = true) : callR m f [.loc n] L = .ok (.d y) (L.set n o') := by
  cases m <;> simp [callR, locsOf, takeL, nodupB, handed, putL, backR, backW, h, hn, hb, hb']
theorem forLoop_ix {step : D → Env → List Obj → RS} {I : Nat → Env → List Obj → Prop} : ∀ (ds : List D) (k : Nat), (∀ (j : Nat) (d : D), ds[j]? = some d → ∀ ρ L, I (k + j) ρ L → ∃ ρ' L', step d ρ L = .ok .nx ρ' L' ∧ I (k + j + 1) ρ' L') →
    ∀ {ρ : Env} {L : List Obj}, I k ρ L → ∃ ρ' L', forLoop step ds ρ L = .ok .nx ρ' L' ∧ I (k + ds.length) ρ' L'
  | [], k, _, ρ, L, i => ⟨ρ, L, rfl, i⟩
  | d :: ds, k, h, ρ, L, i => by
    obtain ⟨ρ1, L1, e1, i1⟩ := h 0 d rfl ρ L i
    obtain ⟨ρ2, L2, e2, i2⟩ := forLoop_ix ds (k + 1) (fun j x hj ρ L hi => by
      have := h (j + 1) x (by simpa using hj) ρ L (by rw [show k + (j + 1) = k + 1 + j from by omega]; exact hi)
      rw [show k + (j + 1) + 1 = k + 1 + j + 1 from by omega] at this
      exact this) (ρ := ρ1) (L := L1) i1
    refine ⟨ρ2, L2, ?_, by rw [List.length_cons, show k + (ds.length + 1) = k + 1 + ds.length from by omega]; exact i2⟩
    simp only [forLoop, e1, e2]
/-- with no count -/
theorem forLoop_all {step : D → Env → List Obj → RS} {I : Env → List Obj → Prop} {ds : List D} (h : ∀ d ∈ ds, ∀ ρ L, I ρ L → ∃ ρ' L', step d ρ L = .ok .nx ρ' L' ∧ I ρ' L') {ρ : Env} {L : List Obj} (i : I ρ L) : ∃ ρ' L', forLoop step ds ρ L = .ok .nx ρ' L' ∧ I ρ' L' := by
  obtain ⟨ρ', L', e, i'⟩ := forLoop_ix (I := fun _ => I) ds 0 (fun j d hj ρ L hi => h d (List.mem_of_getElem? hj) ρ L hi) i
  exact ⟨ρ', L', e, i'⟩
theorem compLoop_ix {step : D → List Obj → R (Option D)} {I : Nat → List Obj → Prop} {Pd : D → Prop} : ∀ (ds : List D) (k : Nat), (∀ (j : Nat) (d : D), ds[j]? = some d → ∀ L, I (k + j) L → ∃ x L', step d L = .ok (some x) L' ∧ Pd x ∧ I (k + j + 1) L') →
    ∀ {L : List Obj}, I k L → ∃ rs L', compLoop step ds L = .ok rs L' ∧ rs.length = ds.length ∧ (∀ x ∈ rs, Pd x) ∧ I (k + ds.length) L'
  | [], k, _, L, i => ⟨[], L, rfl, rfl, (fun _ h => absurd h (by simp)), i⟩
  | d :: ds, k, h, L, i => by
    obtain ⟨x, L1, e1, p1, i1⟩ := h 0 d rfl L i
    obtain ⟨rs, L2, e2, l2, p2, i2⟩ := compLoop_ix ds (k + 1) (fun j x hj L hi => by
      have := h (j + 1) x (by simpa using hj) L (by rw [show k + (j + 1) = k + 1 + j from by omega]; exact hi)
      rw [show k + (j + 1) + 1 = k + 1 + j + 1 from by omega] at this
      exact this) (L := L1) i1
    refine ⟨x :: rs, L2, ?_, by simp [l2], fun y hy => ?_, by rw [List.length_cons, show k + (ds.length + 1) = k + 1 + ds.length from by omega]; exact i2⟩
    · simp only [compLoop, e1, e2, R.bind]
    · rcases List.mem_cons.mp hy with rfl | hy
      · exact p1
      · exact p2 y hy
/-- a comprehension that changes nothing -/
theorem compLoop_pure {step : D → List Obj → R (Option D)} {f : D → Option D} {L : List Obj} : ∀ {ds : List D}, (∀ d ∈ ds, step d L = .ok (f d) L) → compLoop step ds L = .ok (ds.filterMap f) L
  | [], _ => rfl
  | d :: ds, h => by
    simp only [compLoop, h d List.mem_cons_self, R.bind, compLoop_pure (fun x hx => h x (List.mem_cons_of_mem _ hx))]
    rw [List.filterMap_cons]
    cases f d <;> rfl
theorem filterMap_none {α β : Type} {f : α → Option β} : ∀ {l : List α}, (∀ x ∈ l, f x = none) → l.filterMap f = []
  | [], _ => rfl
  | x :: l, h => by rw [List.filterMap_cons, h x List.mem_cons_self]; exact filterMap_none fun y hy => h y (List.mem_cons_of_mem _ hy)
theorem eB_cons {P : Pr} {s : IS} {ss : List IS} {ρ ρ' : Env} {L L' : List Obj} (h : eS P s ρ L = .ok .nx ρ' L') : eB P (s :: ss) ρ L = eB P ss ρ' L' := by
  simp only [eB, h]
theorem eB_last {P : Pr} {s : IS} {ss : List IS} {ρ ρ' : Env} {L L' : List Obj} {w : W} (h : eS P s ρ L = .ok (.rt w) ρ' L') : eB P (s :: ss) ρ L = .ok (.rt w) ρ' L' := by
  simp only [eB, h]
theorem ifs_bl {P : Pr} {t : IE} {a b : List IS} {ρ : Env} {L L1 : List Obj} {c : Bool} (h : eE P t ρ L = .ok (.d (.bl c)) L1) : eS P (.ifs t a b) ρ L = if c then eB P a ρ L1 else eB P b ρ L1 := by
  rw [eS, h]
  rfl
theorem ifs_skip {P : Pr} {t : IE} {a : List IS} {ρ : Env} {L L1 : List Obj} (h : eE P t ρ L = .ok (.d (.bl false)) L1) : eS P (.ifs t a []) ρ L = .ok .nx ρ L1 := by
  rw [ifs_bl h, if_neg Bool.false_ne_true]
  simp only [eB]
theorem ifs_do {P : Pr} {t : IE} {a b : List IS} {ρ : Env} {L L1 : List Obj} (h : eE P t ρ L = .ok (.d (.bl true)) L1) : eS P (.ifs t a b) ρ L = eB P a ρ L1 := by
  rw [ifs_bl h, if_pos rfl]
theorem ret_con {P : Pr} {d : D} {ss : List IS} {ρ : Env} {L : List Obj} : eB P (.ret (.con d) :: ss) ρ L = .ok (.rt (.d d)) ρ L := by
  simp only [eB, eS, eE, R.st]
theorem eB_nil {P : Pr} {ρ : Env} {L : List Obj} : eB P [] ρ L = .ok .nx ρ L := by simp only [eB]
theorem not_bl {P : Pr} {a : IE} {ρ : Env} {L L1 : List Obj} {c : Bool} (h : eE P a ρ L = .ok (.d (.bl c)) L1) : eE P (.not a) ρ L = .ok (.d (.bl (!c))) L1 := by
  rw [eE, h]
  rfl
theorem or_bl {P : Pr} {a b : IE} {ρ : Env} {L L1 : List Obj} {c : Bool} (h : eE P a ρ L = .ok (.d (.bl c)) L1) : eE P (.or a b) ρ L = if c then .ok (.d (.bl c)) L1 else eE P b ρ L1 := by
  rw [eE, h]
  rfl
theorem and_bl {P : Pr} {a b : IE} {ρ : Env} {L L1 : List Obj} {c : Bool} (h : eE P a ρ L = .ok (.d (.bl c)) L1) : eE P (.and a b) ρ L = if c then eE P b ρ L1 else .ok (.d (.bl c)) L1 := by
  rw [eE, h]
  rfl
theorem ite_bl {P : Pr} {t a b : IE} {ρ : Env} {L L1 : List Obj} {c : Bool} (h : eE P t ρ L = .ok (.d (.bl c)) L1) : eE P (.ite t a b) ρ L = if c then eE P a ρ L1 else eE P b ρ L1 := by
  rw [eE, h]
  rfl
section
variable {P : Pr} {m : Bool} {f : Nat} {a b c : IE} {ρ : Env} {L L1 L2 L3 : List Obj} {w w2 w3 : W} {r : R W}
theorem var_ok {i : Nat} (h : ρ[i]? = some (some w)) : eE P (.var i) ρ L = .ok w L := by rw [eE, h]
theorem con_ok {d : D} : eE P (.con d) ρ L = .ok (.d d) L := by rw [eE]
theorem es_nil : eEs P [] ρ L = .ok [] L := by rw [eEs]
theorem es_cons {es : List IE} {ws : List W} (ha : eE P a ρ L = .ok w L1) (hb : eEs P es ρ L1 = .ok ws L2) : eEs P (a :: es) ρ L = .ok (w :: ws) L2 := by
  rw [eEs, ha]
  show (R.bind (eEs P es ρ L1) _) = _
  rw [hb]
  rfl
theorem es1 (ha : eE P a ρ L = .ok w L1) : eEs P [a] ρ L = .ok [w] L1 := es_cons ha es_nil
theorem es2 (ha : eE P a ρ L = .ok w L1) (hb : eE P b ρ L1 = .ok w2 L2) : eEs P [a, b] ρ L = .ok [w, w2] L2 := es_cons ha (es1 hb)
theorem es3 (ha : eE P a ρ L = .ok w L1) (hb : eE P b ρ L1 = .ok w2 L2) (hc : eE P c ρ L2 = .ok w3 L3) : eEs P [a, b, c] ρ L = .ok [w, w2, w3] L3 := es_cons ha (es2 hb hc)
theorem call_es {es : List IE} {ws : List W} (h : eEs P es ρ L = .ok ws L1) (hc : callR m (P.fn f) ws L1 = r) : eE P (.call m f es) ρ L = r := by
  rw [eE, h, ← hc]
  rfl
theorem callk_es {es ks : List IE} {ws zs : List W} (h : eEs P es ρ L = .ok ws L1) (h2 : eEs P ks ρ L1 = .ok zs L2) (hc : callR m (P.fn f) (ws ++ zs) L2 = r) : eE P (.callk m f es ks) ρ L = r := by
  rw [eE, h]
  show (R.bind (eEs P ks ρ L1) _) = _
  rw [h2, ← hc]
  rfl
theorem call1 (ha : eE P a ρ L = .ok w L1) (hc : callR m (P.fn f) [w] L1 = r) : eE P (.call m f [a]) ρ L = r := call_es (es1 ha) hc
theorem call2 (ha : eE P a ρ L = .ok w L1) (hb : eE P b ρ L1 = .ok w2 L2) (hc : callR m (P.fn f) [w, w2] L2 = r) : eE P (.call m f [a, b]) ρ L = r := call_es (es2 ha hb) hc
theorem call3 (ha : eE P a ρ L = .ok w L1) (hb : eE P b ρ L1 = .ok w2 L2) (hc' : eE P c ρ L2 = .ok w3 L3) (hc : callR m (P.fn f) [w, w2, w3] L3 = r) : eE P (.call m f [a, b, c]) ρ L = r := call_es (es3 ha hb hc') hc
theorem bn1 {n : Bn} {d e : D} (ha : eE P a ρ L = .ok w L1) (hp : peek w L1 = some d) (h : bnO n [d] = some e) : eE P (.bn false n [a]) ρ L = .ok (.d e) L1 := by
  rw [eE, es1 ha]
  simp only [R.bind, peeks, hp, Option.bind_some, Option.map_some, h, fresh, Bool.false_eq_true, if_false]
theorem pcmp_ok {op : COp} {d e : D} {x : Bool} (ha : eE P a ρ L = .ok w L1) (hb : eE P b ρ L1 = .ok w2 L2) (hp : peek w L2 = some d) (hq : peek w2 L2 = some e) (h : cmpO op d e = some x) : eE P (.cmp op a b) ρ L = .ok (.d (.bl x)) L2 := by
  rw [eE, ha]
  show (R.bind (eE P b ρ L1) _) = _
  rw [hb]
  simp only [R.bind, hp, hq, h, outB]
theorem bin_ok {op : BOp} {d e x : D} (ha : eE P a ρ L = .ok w L1) (hb : eE P b ρ L1 = .ok w2 L2) (hp : peek w L2 = some d) (hq : peek w2 L2 = some e) (h : binO op d e = some x) : eE P (.bin op a b) ρ L = .ok (.d x) L2 := by
  rw [eE, ha]
  show (R.bind (eE P b ρ L1) _) = _
  rw [hb]
  simp only [R.bind, hp, hq, h, outO]
theorem idx_ok {d e x : D} (ha : eE P a ρ L = .ok w L1) (hb : eE P b ρ L1 = .ok w2 L2) (hp : peek w L2 = some d) (hq : peek w2 L2 = some e) (h : getO d e = some x) : eE P (.idx a b) ρ L = .ok (.d x) L2 := by
  rw [eE, ha]
  show (R.bind (eE P b ρ L1) _) = _
  rw [hb]
  simp only [R.bind, hp, hq, h, outO]
theorem lst_ok {es : List IE} {ws : List W} {ds : List D} (h : eEs P es ρ L = .ok ws L1) (hd : asDs ws L1 = some (ds, L2)) : eE P (.lst false es) ρ L = .ok (.d (.lst ds)) L2 := by
  rw [eE, h]
  simp only [R.bind, hd, fresh, Bool.false_eq_true, if_false]
theorem tup_ok {es : List IE} {ws : List W} {ds : List D} (h : eEs P es ρ L = .ok ws L1) (hd : asDs ws L1 = some (ds, L2)) : eE P (.tup es) ρ L = .ok (.d (.tup ds)) L2 := by
  rw [eE, h]
  simp only [R.bind, hd]
theorem val_ok {d : D} {ds : List D} (h : eE P a ρ L = .ok (.d d) L1) (hi : itemsO d = some ds) : eI P (.val a) ρ L = .ok ds L1 := by
  rw [eI, h]
  simp only [R.bind, asD1, asD, hi]
theorem ne_same {t : T} {x y : IE} (ha : eE P x ρ L = .ok (.d (.str t)) L1) (hb : eE P y ρ L1 = .ok (.d (.str t)) L2) : eE P (.cmp .ne x y) ρ L = .ok (.d (.bl false)) L2 :=
  pcmp_ok ha hb rfl rfl (by simp [cmpO, eqO])
end
theorem callR_dd_err {m : Bool} {f : Fn} {L L1 : List Obj} {x x2 : D} {e : Exc} (h : f [.d x, .d x2] [] = .err e L1) : callR m f [.d x, .d x2] L = .err e L := by
  cases m <;> simp [callR, locsOf, takeL, nodupB, handed, putL, h]
theorem callR_d_err {m : Bool} {f : Fn} {L L1 : List Obj} {x : D} {e : Exc} (h : f [.d x] [] = .err e L1) : callR m f [.d x] L = .err e L := by
  cases m <;> simp [callR, locsOf, takeL, nodupB, handed, putL, h]
/-- one turn of a loop -/
def stepOf (P : Pr) (tg : Tg) (b : List IS) (x : D) (ρ : Env) (L : List Obj) : RS := match asg tg (.d x) ρ L with
  | some ρ' => eB P b ρ' L
  | none => .bad
theorem for_ok {P : Pr} {tg : Tg} {it : It} {b : List IS} {ρ ρ' : Env} {L L1 L' : List Obj} {ds : List D} (hi : eI P it ρ L = .ok ds L1) (h : forLoop (stepOf P tg b) ds ρ L1 = .ok .nx ρ' L') : eS P (.for_ tg it b) ρ L = .ok .nx ρ' L' := by
  simp only [eS, hi, R.st]
  exact h
theorem rng1_ok {P : Pr} {e : IE} {ρ : Env} {L L1 : List Obj} {j : Int} {ds : List D} (h : eE P e ρ L = .ok (.d (.int j)) L1) (hr : rangeO 0 j = some ds) : eI P (.rng1 e) ρ L = .ok ds L1 := by
  rw [eI, h]
  show (match rangeO 0 j with
      | some ds => R.ok ds L1
      | none => R.bad) = _
  rw [hr]
theorem rng2_ok {P : Pr} {e e2 : IE} {ρ : Env} {L L1 L2 : List Obj} {i j : Int} {ds : List D} (h : eE P e ρ L = .ok (.d (.int i)) L1) (h2 : eE P e2 ρ L1 = .ok (.d (.int j)) L2) (hr : rangeO i j = some ds) : eI P (.rng2 e e2) ρ L = .ok ds L2 := by
  rw [eI, h]
  show R.bind (eE P e2 ρ L1) _ = _
  rw [h2]
  show (match rangeO i j with
      | some ds => R.ok ds L2
      | none => R.bad) = _
  rw [hr]
theorem asg_ok {P : Pr} {i : Nat} {e : IE} {ρ : Env} {L L1 : List Obj} {w : W} (h : eE P e ρ L = .ok w L1) : eS P (.asg (.nm i) e) ρ L = .ok .nx (ρ.set i (some w)) L1 := by
  simp only [eS, h, R.st, asg]
theorem ret_ok {P : Pr} {e : IE} {ρ : Env} {L L1 : List Obj} {w : W} (h : eE P e ρ L = .ok w L1) : eS P (.ret e) ρ L = .ok (.rt w) ρ L1 := by
  simp only [eS, h, R.st]
theorem runF_ok {P : Pr} {n : Nat} {b : List IS} {ws : List W} {L L' : List Obj} {ρ' : Env} {w : W} (h : eB P b (startE n ws) L = .ok (.rt w) ρ' L') : runF P n b ws L = .ok w L' := by
  simp only [runF, h]
/-- one turn of a comprehension -/
def cstepOf (P : Pr) (own : List Nat) (tg : Tg) (ifs : List IE) (elt : IE) (ρ : Env) (x : D) (L : List Obj) : R (Option D) := match asg tg (.d x) (wipeE ρ own) L with
  | some ρ' => (eTs P ifs ρ' L).bind fun c L => if c then (eE P elt ρ' L).bind fun w L => (asD1 w L).bind fun d L => .ok (some d) L else .ok none L
  | none => .bad
theorem comp_ok {P : Pr} {own : List Nat} {tg : Tg} {it : It} {ifs : List IE} {elt : IE} {ρ : Env} {L L1 L2 : List Obj} {ds rs : List D} (hi : eI P it ρ L = .ok ds L1) (hz : ds.length ≤ SZ)
    (h : compLoop (cstepOf P own tg ifs elt ρ) ds L1 = .ok rs L2) : eE P (.comp false own tg it ifs elt) ρ L = .ok (.d (.lst rs)) L2 := by
  rw [eE, hi]
  show (if ds.length ≤ SZ then _ else _) = _
  rw [if_pos hz]
  have k : ∀ r : R (List D), r = R.ok rs L2 → (r.calm.bind fun r L => fresh false (D.lst r) L) = .ok (.d (.lst rs)) L2 := by rintro _ rfl; rfl
  exact k _ h
theorem mn1_ok {P : Pr} {m : Mn} {o a : IE} {ρ : Env} {L L1 L2 : List Obj} {w w2 : W} {x y d : D} (ho : eE P o ρ L = .ok w L1) (hp : mnPre m w L1 = true) (ha : eE P a ρ L1 = .ok w2 L2) (hx : peek w L2 = some x) (hy : peek w2 L2 = some y) (h : mnO m x [y] = some d) :
    eE P (.mn false m o [a]) ρ L = .ok (.d d) L2 := by
  rw [eE, ho]
  show (if mnPre m w L1 = true then _ else _) = _
  rw [if_pos hp, eEs, ha]
  show R.bind (eEs P [] ρ L2 |>.bind fun ws L => .ok (w2 :: ws) L) _ = _
  simp only [eEs, R.bind, hx, peeks, hy, h, Option.bind_some, Option.map_some, fresh, Bool.false_eq_true, if_false]
theorem compLoop_map {α : Type} {g h : α → D} {step : D → List Obj → R (Option D)} {L : List Obj} : ∀ {s : List α}, (∀ x ∈ s, step (g x) L = .ok (some (h x)) L) → compLoop step (s.map g) L = .ok (s.map h) L
  | [], _ => rfl
  | x :: s, hs => by
    simp only [List.map_cons, compLoop, hs x List.mem_cons_self, R.bind, compLoop_map (fun y hy => hs y (List.mem_cons_of_mem _ hy))]
theorem bools_map {α : Type} {p : α → Bool} : ∀ s : List α, boolsO (s.map fun x => D.bl (p x)) = some (s.map p)
  | [] => rfl
  | x :: s => by simp only [List.map_cons, boolsO, bools_map s, Option.map_some]
theorem cnt_cons (a : Nat) (s : T) : ∀ l : T, (l.map fun c => (a :: s).count c).sum = (l.map fun c => s.count c).sum + l.count a
  | [] => rfl
  | c :: l => by
    rw [List.map_cons, List.map_cons, List.sum_cons, List.sum_cons, cnt_cons a s l, List.count_cons, List.count_cons]
    have : (a == c) = (c == a) := by
      by_cases h : a = c
      · subst h; rfl
      · rw [beq_eq_false_iff_ne.mpr h, beq_eq_false_iff_ne.mpr (Ne.symm h)]
    rw [this]
    omega
theorem cnt_sum {l : T} (hl : l.Nodup) : ∀ s : T, (l.map fun c => s.count c).sum = s.countP fun c => decide (c ∈ l)
  | [] => by
    have : ∀ l : T, (l.map fun c => ([] : T).count c).sum = 0 := fun l => by
      induction l with
      | nil => rfl
      | cons c l ih => rw [List.map_cons, List.sum_cons, ih]; rfl
    rw [this]; rfl
  | a :: s => by
    rw [cnt_cons, cnt_sum hl s, List.countP_cons, hl.count]
    by_cases h : a ∈ l
    · simp [h]
    · simp [h]
theorem eqI {i j : Int} : eqO (.int i) (.int j) = some (i == j) := by simp [eqO, D.plain, D.deep, D.eqv]
theorem eqS {i j : T} : eqO (.str i) (.str j) = some (i == j) := rfl
theorem bits_ok {i j : Int} (hi : i.natAbs < 2 ^ 250) (hj : j.natAbs < 2 ^ 250) : bitsOk i j = true := by
  have h : (2 : Nat) ^ 250 ≤ 2 ^ 100000 := Nat.pow_le_pow_right (by decide) (by decide)
  unfold bitsOk
  rw [decide_eq_true (Nat.lt_of_lt_of_le hi h), decide_eq_true (Nat.lt_of_lt_of_le hj h)]
  rfl
theorem div_ok {j : Int} (h0 : 0 < j) (hj : j.natAbs < 2 ^ 250) : (decide (0 < j) && decide (j.natAbs < 2 ^ 9000)) = true := by
  have h : (2 : Nat) ^ 250 ≤ 2 ^ 9000 := Nat.pow_le_pow_right (by decide) (by decide)
  rw [decide_eq_true h0, decide_eq_true (Nat.lt_of_lt_of_le hj h)]
  rfl
theorem mul_ok {i j : Int} (hi : i.natAbs < 2 ^ 250) (hj : j.natAbs < 2 ^ 250) : binO .mul (.int i) (.int j) = some (.int (i * j)) := by
  simp only [binO, bits_ok hi hj, if_true]
theorem fdiv_ok {i j : Int} (h0 : 0 < j) (hj : j.natAbs < 2 ^ 250) : binO .fdiv (.int i) (.int j) = some (.int (i / j)) := by
  simp only [binO, div_ok h0 hj, if_true]
theorem mod_ok {i j : Int} (h0 : 0 < j) : binO .mod (.int i) (.int j) = some (.int (i % j)) := by
  simp only [binO, decide_eq_true h0, if_true]
theorem add_i {i j : Int} : binO .add (.int i) (.int j) = some (.int (i + j)) := rfl
theorem sub_i {i j : Int} : binO .sub (.int i) (.int j) = some (.int (i - j)) := rfl
theorem rng_ok {n : Nat} (h : n < 2 ^ 60) : rangeO 0 (n : Int) = some ((List.range n).map fun (k : Nat) => D.int (k : Int)) := by
  unfold rangeO
  have e : decide (-(2 ^ 62) ≤ (0 : Int) ∧ (0 : Int) < 2 ^ 62 ∧ -(2 ^ 62) ≤ (n : Int) ∧ (n : Int) < 2 ^ 62) = true := decide_eq_true (by omega)
  rw [e]
  simp
end EV

set_option maxRecDepth 100000
set_option maxHeartbeats 4000000
namespace EV
open PySem L2 PyProof.Rows
theorem says_sp {Y : Lay} {F : Fn} {m : Nat} (h : Says F m) {K : PySem.W.Frag} (hK : Y.K = K) {H : Hp} {a : Addr} {ns : List Int} (hl : ns.length ≤ m) (hS : SqL K H a (ns.map V.int)) :
    spF Y F 1 [.ref a] H (fun v _ => v = .bl true) fun _ _ _ => False := by
  refine ⟨rfl, fun _ => False, [], [], [.d (.scr ns)], ⟨rfl, .nil, fun n a o h => by simp at h, fun a h => h.elim, fun a h => by simp at h, fun a h => by simp at h⟩, .cons ?_ .nil, ?_⟩
  · refine RD.scr ?_
    rw [hK]
    have nav : ¬ av (fun _ => False) [] [] a := by
      rintro (h | ⟨n, o, h, _⟩)
      · exact h
      · simp at h
    rcases hS with h | h
    · exact .inl ⟨h, nav⟩
    · exact .inr h
  · obtain ⟨L, e⟩ := h ns hl
    rw [e]
    intro ι' H' _ _ v rv
    cases (show RD Y _ _ (.bl true) v from rv)
    rfl
theorem walk_ev {l : PySem.W.OpenLaw} {m k : Nat} {q : Program} {loose : List Str} {XP : (Str → Option Value) → Heap → Prop} {YP : World → Heap → Prop} {d : DefRec} {x : Str} {F : Fn}
    (hn : l.most = some m) (hm : m ≤ sizeLine) (hd : d.params.defaults = []) (hr : Room k callerA) (hF : Says F m)
    (hk : ∀ (w : World) (mg : Str → Option Value) (fa : Addr) (h : Heap), YP w h → h.Ns mainGlobals mg → mg d.name = some (.ref fa) →
      ∃ (K : PySem.W.Frag) (fd : FuncData) (Y : Lay), K.In h ∧ Y.K = K ∧ (∀ (s : Shared) (u : Value), BindsTo s fd ⟨[u], []⟩ [(x, u)]) ∧
        ∀ base : Heap, K.In base → base.Ns mainGlobals mg → FnG l.prog w K mg base (L2.CX l.prog w) k fa fd [x] (spF Y F 1)) :
    PySem.W.WalkO q loose XP YP l.row.toRowW d [] (fun f vs => PySem.call f vs) := by
  refine Att.attach_call hn hd fun w s0 s1 mg mb fa o pm cd doc a vs ns G Yp ho hdo hcd hmg hobj hi hlen hg => ?_
  obtain ⟨K, fd, Y, KX, hY, hb, hf⟩ := hk w mg fa _ Yp G.T.g hmg
  refine law_callG KX G.T.g G.T.b G.T.builtins G.T.nolimit hg hobj hi (Nat.le_trans hlen hm) hr hf hb (fun H hS => says_sp hF hY hlen hS) fun H e s' z => ?_
  obtain ⟨_, _, _, _, _, _, _, _, _, _, _, _, _, z⟩ := z
end EV

set_option maxRecDepth 100000
set_option maxHeartbeats 4000000
namespace EV
namespace Ex
open PySem PySem.W PySem.Calls PyProof.Rows PySem.HandSPX Builtin Builtin.ObjectAttr
section
variable {prog : Program} {w : World} {A : Around} {E : Value → Shared → Prop} {R : Result → Shared → Prop} {hp : Heap} {g : Array GenState} {d : Drawn} {t : Nat} {os : OsState} {B : String} {bmB : List Value}
theorem tail_ne {l : List Value} (h : bmB ≠ []) (e : excTail bmB l = true) : l.isEmpty = false := by
  rcases excTail_cases l e with ⟨c, r, rfl, _⟩ | rfl
  · rfl
  · cases l with
    | nil => exact absurd rfl h
    | cons _ _ => rfl
/-- the first store into a fresh exception of an own class -/
theorem osa_first (SF : StoreFacts B bmB "object.__setattr__" "object") (hobj : bmB.contains (.type "object") = true) (hne : bmB ≠ []) {K : W.Frag} {name : Str} {tk : Tok} {v : Value} {x C : Addr} {fv : Array Value} {cd : ClassData}
    (X : K.In hp) (hx : hp.get? x = some { cls := .ref C, data := .fields fv }) (hcd : W.clsIn K C = some cd) (hm : excTail bmB cd.mro = true) (hh : cd.hasDict = true) (ha : W.findIn K (.ref C) name = some none)
    (hq : ∀ h' tk' dx, (∀ b o, b ≠ x → hp.get? b = some o → h'.get? b = some o) → hp.objs.size ≤ dx → dx ≠ x → h'.get? x = some { cls := .ref C, dict := some dx, data := .fields fv } →
      h'.Ns1 dx (fun y => if y = name then some v else none) → R (.ok (.ret .none)) ⟨h', g, d, tk', os⟩) :
    codeAny (model prog w) A (.call (.builtin "object.__setattr__") ⟨[.ref x, .str name tk, v], []⟩) R ⟨hp, g, d, t, os⟩ := by
  have I : W.InstAt hp x { cls := .ref C, data := .fields fv } C none := ⟨hx, rfl, rfl, trivial⟩
  have SO := F.store_object
  have hob : cd.mro.contains (.type "object") = true := (excTail_contains "object" _ hm).trans hobj
  have apart : x ≠ hp.objs.size := Nat.ne_of_lt (Heap.lt_size hx)
  have isO : W.Looks (model prog w) hp (isInstance (.ref x) (.type "object")) true :=
    I.type.andThen (W.looks_mroIn X (by unfold W.mroIn; rw [hcd, Option.bind_some, if_neg (by rw [tail_ne hne hm]; decide), hob]))
  refine codeAny_call_builtin SO.slot.plain SO.entry (@W.check_slot (model prog w) _ _ ⟨hp, g, d, t, os⟩ "object.__setattr__" "object" "__setattr__" (.ref x) [.str name tk, v] [] _ SO.kind SO.split isO (SO.args (.ref x) (.str name tk) v) ?_)
  have hmr : W.Looks (model prog w) hp (mroOf (.ref C)) cd.mro := (W.looks_clsIn X hcd).andThen .now
  have none3 : W.Looks (model prog w) hp (storeTaker? none) none := .now
  have hcls : W.Looks (model prog w) hp (classData C) cd := W.looks_clsIn X hcd
  rw [W.osa_eq, refuse_eq]
  refine wpAny_bind (wpAny_bind (I.type.at (wpAny_bind (hmr.at ?_))))
  rw [excTail_pass (.ref x) (SF.passes _) _ hm]
  refine wpAny_pure (wpAny_bind (I.type.at (wpAny_bind ((W.looks_findIn X ha).at (wpAny_bind (none3.at ?_))))))
  show wpAny _ _ (storeInOwnDict (.ref x) (.ref C) (.str name tk) name v false) _ _ _
  obtain ⟨nm, bs, mro, ns, qn, hd, sn, sb, ab, col, del⟩ := cd
  dsimp only at hh
  subst hh
  unfold storeInOwnDict ownDictForStores
  repeat (first | with_reducible refine store_in_new ?_ ?_ | with_reducible refine wpAny_loadPart_at hx ?_ | with_reducible refine hcls.at ?_ | wp_step)
  · exact ⟨_, #[], _, (Heap.get?_update_ne _ _ _ _ apart.symm).trans (Heap.get?_push_at rfl rfl), rfl, fun e he => absurd he (by simp), fun _ => rfl⟩
  · intro h' tk' hn' hs
    have hx1 : (hp.push { cls := .type "dict", data := .dict #[] }).get? x = some { cls := .ref C, data := .fields fv } := Heap.get?_push_of_some _ hx
    refine hq h' tk' hp.objs.size (fun b o hb ho => ?_) (Nat.le_refl _) apart.symm ?_ hn'
    · exact (hs.2 b (Nat.ne_of_lt (Heap.lt_size ho))).trans ((Heap.get?_update_ne _ _ _ _ hb).trans (Heap.get?_push_of_some _ ho))
    · exact (hs.2 x apart).trans (Heap.get?_update_self _ hx1 rfl)
end
/-- what the top has written of such a class: at C, its __init__ at fI -/
structure XCls (K : Frag) (mg : Str → Option Value) (x f : Str) (C fI : Addr) (newId : String) (bmB : List Value) : Prop where
  gC : mg x = some (.ref C)
  cls : ∃ nm q N bs bm sn sub ab col dd k0 k1 k2 k3 k5, K.lookup C = some (excClassObj nm q C N bs bm true sn sub ab col dd k0 k1 k2 k3 k5 newId) ∧ excTail bmB bm = true
  sa : findIn K (.ref C) "__setattr__" = some (some (.builtin "object.__setattr__"))
  noN : findIn K (.ref C) f = some none
  iC : findIn K (.ref C) "__init__" = some (some (.ref fI))
  tC : typeIn K (.ref fI) = some (.type "function")
  kC : keepIn K (.ref C) = true
  exC : subIn K (.ref C) (.type "BaseException") = some true
  tyC : typeIn K (.ref C) = some (.type "type")
/-- the text of its __init__ -/
structure XInit (K : Frag) (f : Str) (fI : Addr) : Prop where
  ne : f ≠ ("self" : Str)
  nd : (f == ("__debug__" : Str)) = false
  fn : ∃ (oc : Value) (od : Option Addr) (nm qn : Str) (as : Arguments) (sc : Scope) (dV kV doc pm : Value) (an : Option Addr) (cdv ct : Value) (osl : Array (Option Value)) (q1 q2 q3 q4 : Pos),
    K.lookup fI = some ⟨oc, od, .func (fnOf nm qn as [.Assign [.Attribute (.Name "self" q1) f q2] (.Name f q3) q4] sc dV kV doc pm an cdv ct), osl⟩ ∧ codeIn K cdv qn = true ∧
      (∀ (s : Shared) (u v : Value), BindsTo s (fnOf nm qn as [.Assign [.Attribute (.Name "self" q1) f q2] (.Name f q3) q4] sc dV kV doc pm an cdv ct) ⟨[u, v], []⟩ [("self", u), (f, v)]) ∧
      sc.names.lookup ("self" : Str) = some NameKind.local ∧ sc.names.lookup f = some NameKind.local ∧ sc.isCoroutine = false ∧ sc.isGenerator = false ∧ sc.kind = .function
section
variable {prog : Program} {w : World} {A : Around} {E : Value → Shared → Prop} {R : Result → Shared → Prop} {s : Shared} {K : Frag} {mg : Str → Option Value} {C fI : Addr} {x f : Str} {B newId initId : String} {bmB : List Value}
theorem two_binds {k : Str → Option NameKind} {u v : Value} (h1 : k "self" = some .local) (h2 : k f = some .local) (ne : f ≠ ("self" : Str)) :
    bindL k [("self", u), (f, v)] (fun _ => none) "self" = some u ∧ bindL k [("self", u), (f, v)] (fun _ => none) f = some v := by
  unfold bindL
  rw [if_pos h1]
  unfold bindL
  rw [if_pos h2]
  unfold bindL
  refine ⟨?_, ?_⟩
  · show (if ("self" : Str) = f then some v else if ("self" : Str) = ("self" : Str) then some u else none) = some u
    rw [if_neg (Ne.symm ne), if_pos rfl]
  · show (if f = f then some v else if f = ("self" : Str) then some u else none) = some v
    rw [if_pos rfl]
/-- what __init__ leaves of the fresh exception at e -/
structure Kept1 (f : Str) (h h' : Heap) (e C dx t1 : Addr) (v : Value) : Prop where
  keep : ∀ b o, b ≠ e → h.get? b = some o → h'.get? b = some o
  obj : h'.get? e = some { cls := .ref C, dict := some dx, data := .fields #[.ref t1, .none, .none, .none, .bool false, .none] }
  big : h.objs.size ≤ dx
  ne : dx ≠ e
  ns : h'.Ns1 dx (fun y => if y = f then some v else none)
theorem init_run (SF : StoreFacts B bmB "object.__setattr__" "object") (hobj : bmB.contains (.type "object") = true) (hne : bmB ≠ []) (T : XCls K mg x f C fI newId bmB) (TI : XInit K f fI) {e t0 : Addr} {v : Value} (X : K.In s.heap) (nol : s.heap.NoLimit)
    (he : s.heap.get? e = some (excO C t0)) (hroom : A.depth < recursionLimit) (hq : ∀ h' tk dx, Kept1 f s.heap h' e C dx t0 v → R (.ok (.ret .none)) { s with heap := h', toks := tk }) :
    codeAny (model prog w) A (.call (.ref fI) ⟨[.ref e, v], []⟩) R s := by
  obtain ⟨oc, od, nm0, qn, as, sc, dV, kV, doc, pm, an, cdv, ct, osl, q1, q2, q3, q4, ho, hcd, bnd, l1, l2, hco, hge, hki⟩ := TI.fn
  obtain ⟨nm, q, N, bs, bm, sn, sub, ab, col, dd, k0, k1, k2, k3, k5, hC, hbm⟩ := T.cls
  have hcl : clsIn K C = some { name := nm, bases := bs, mro := .ref C :: bm, ns := N, qualname := q, hasDict := true, slotNames := sn, subclasses := sub, abstract := ab, collection := col, hasDel := false } := by unfold clsIn; rw [hC] <;> rfl
  refine Att.call_fn (binds := [("self", .ref e), (f, v)]) X nol ho hcd hroom (bnd _ _ _) (by simp [l1, l2]) (fun s1 IC => ?_) hco hge hki
  obtain ⟨h1, tk1, rfl⟩ := IC.toInCall.same
  have k : ∀ b o, s.heap.get? b = some o → h1.get? b = some o := IC.toInCall.keep
  have hn := IC.toInCall.ns
  have X1 : K.In h1 := X.keeps k
  have he1 := k _ _ he
  obtain ⟨v1, v2⟩ := two_binds (k := (envOfC qn sc s.heap.objs.size fI cdv).kindOf) (u := .ref e) (v := v) l1 l2 TI.ne
  show wpAny _ _ (execs _ _) _ _ _
  refine wpAny_execs_cons (plainObj_wpAny_Assign_Attribute ?_)
  refine wpAny_Name (wpAny_loadName_local hki l2 hn v2 ?_) TI.nd
  refine wpAny_Name (wpAny_loadName_local hki l1 hn v1 ?_) (by decide)
  refine set_plain X1 (ox := excO C t0) (od := none) ⟨he1, rfl, rfl, trivial⟩ T.sa ?_
  refine osa_first SF hobj hne X1 he1 hcl (show excTail bmB (.ref C :: bm) = true from hbm) rfl T.noN (fun h3 tk3 dx k3 dn dne hx3 hn3 => ?_)
  show wpAny _ _ (execs _ _) _ _ _
  have z : s.heap.objs.size < h1.objs.size := hn.lt
  exact wpAny_execs_nil (hq h3 tk3 dx ⟨fun b o hb q => k3 b o hb (k b o q), hx3, Nat.le_of_lt (Nat.lt_of_lt_of_le z dn), dne, hn3⟩)
end
/-- such an exception, made -/
structure Made1 (f : Str) (h h' : Heap) (e C d : Addr) (v : Value) : Prop where
  keep : ∀ b o, h.get? b = some o → h'.get? b = some o
  new : h.objs.size ≤ e
  obj : ∃ oe vs, h'.get? e = some oe ∧ oe.cls = .ref C ∧ oe.dict = some d ∧ oe.data = .fields vs ∧ vs[1]? = some .none
  big : h.objs.size ≤ d
  ne : d ≠ e
  ns : h'.Ns1 d (fun y => if y = f then some v else none)
section
variable {prog : Program} {w : World} {A : Around} {E : Value → Shared → Prop} {R : Result → Shared → Prop} {s : Shared} {K : Frag} {mg : Str → Option Value} {C fI : Addr} {x f : Str} {B newId initId : String} {bmB : List Value}
theorem one_arg (v : Value) : [v].length ≤ sizeLine := by
  rw [sizeLine_eq]
  exact (by decide : 1 ≤ 16777216)
theorem made_run (FB : ExcBaseFacts B newId initId bmB) (SF : StoreFacts B bmB "object.__setattr__" "object") (hobj : bmB.contains (.type "object") = true) (hne : bmB ≠ []) (T : XCls K mg x f C fI newId bmB) (TI : XInit K f fI) {v : Value} (X : K.In s.heap)
    (nol : s.heap.NoLimit) (hroom : A.depth + 1 < recursionLimit) (hq : ∀ h' tk e d, Made1 f s.heap h' e C d v → R (.ok (.ret (.ref e))) { s with heap := h', toks := tk }) : codeAny (model prog w) A (.call (.ref C) ⟨[v], []⟩) R s := by
  obtain ⟨nm, q, N, bs, bm, sn, sub, ab, col, dd, k0, k1, k2, k3, k5, hC, hbm⟩ := T.cls
  obtain ⟨hp, g, dr, tk, os⟩ := s
  have k : ∀ b o, hp.get? b = some o → ((hp.push (kdv_tup [v])).push (excO C hp.objs.size)).get? b = some o := fun b o z => Heap.get?_push_of_some _ (Heap.get?_push_of_some _ z)
  have hget : ((hp.push (kdv_tup [v])).push (excO C hp.objs.size)).get? (hp.objs.size + 1) = some (excO C hp.objs.size) := by heap_get
  refine call_own FB (fun X => excTail_contains X bm hbm) (X _ _ hC) (looks_findIn X T.iC) (fun self => bind_fn X self T.tC) (one_arg v) ?_
  refine init_run (s := ⟨(hp.push (kdv_tup [v])).push (excO C hp.objs.size), g, dr, tk, os⟩) SF hobj hne T TI (X.keeps k) (nol.keeps k) hget ?_ fun h' tk' dx M => ?_
  · show A.depth + 1 < recursionLimit
    exact hroom
  · have old : ∀ b o, hp.get? b = some o → h'.get? b = some o := fun b o z => M.keep b o (Nat.ne_of_lt (Nat.lt_succ_of_lt (Heap.lt_size z))) (k b o z)
    have z : hp.objs.size + 1 + 1 ≤ dx := by
      first
        | (simpa only [Heap.size_push] using M.big)
        | exact M.big
        | (have q := M.big; rw [Heap.size_push, Heap.size_push] at q; exact q)
    exact ⟨rfl, hq h' tk' (hp.objs.size + 1) dx ⟨old, Nat.le_succ _, ⟨_, _, M.obj, rfl, rfl, rfl, rfl⟩, Nat.le_trans (Nat.le_trans (Nat.le_succ _) (Nat.le_succ _)) z, M.ne, M.ns⟩⟩
end
end Ex
open PySem L2 PyProof.Rows
theorem relO_one {f y : Str} {v : V} {u : Value} (r : RelV v u) : RelO (List.lookup y [(f, v)]) (if y = f then some u else none) := by
  by_cases h : y = f
  · subst h
    rw [if_pos rfl]
    have e : List.lookup y [(y, v)] = some v := by simp [List.lookup]
    rw [e]
    exact r
  · rw [if_neg h]
    have e : List.lookup y [(f, v)] = none := by simp [List.lookup, beq_eq_false_iff_ne.mpr h]
    rw [e]
    trivial
/-- C(e) -/
theorem pmk_X {X : Cx} {C fI : Addr} {x f : Str} {B newId initId : String} {bmB : List Value} {k : Nat} {a : Expr} {ta : TA} {p pos : Pos} (FB : ExcBaseFacts B newId initId bmB) (SF : StoreFacts B bmB "object.__setattr__" "object") (hobj : bmB.contains (.type "object") = true) (hne : bmB ≠ [])
    (T : Ex.XCls X.K X.mg x f C fI newId bmB) (TI : Ex.XInit X.K f fI) (hr : Room k X.A) (ha : PA X [a] ta) (hg : Gl X x) (hdb : (x == ("__debug__" : Str)) = false) (hs : noStar1 a = true) : PMk X (.Call (.Name x p) [a] [] pos) (tMkX C f ta) := by
  intro pins s σ H Q I h
  refine wpAny_Call_Name_kw (ld_glob I hg T.gC ?_ hdb)
  refine PySem.W.callWith_K (h₀ := X.base) I.ok.mod.kin T.kC (thn (ha.run pos pins s σ H _ I h) fun us s1 hh => ?_) (star1 hs) (star_any rfl)
  obtain ⟨vs, H1, I1, r1, v, rfl, q1⟩ := hh
  refine ⟨I1.kIn, ?_⟩
  cases r1 with
  | cons rv rn =>
    rename_i v' us'
    cases rn
    show wpAny _ _ (call (.ref C) [v']) _ _ _
    have nol := I1.nolimit
    obtain ⟨hp, g, dr, tk, os⟩ := s1
    refine wpAny_call (Ex.made_run FB SF hobj hne T TI I1.kIn nol (by have := hr.dp; omega) fun h' tk' e d M => ?_)
    show MkP X pins σ Q (.ref e) ⟨h', g, dr, tk', os⟩
    obtain ⟨oe, fv, hoe, hc, hd, hdat, h1⟩ := M.obj
    obtain ⟨G, g1, g2⟩ := restrict h' fun b => decide (b ≠ e)
    have gk : ∀ b, b ≠ e → G.get? b = h'.get? b := fun b hb => g1 b (decide_eq_true hb)
    have ge : G.get? e = none := g2 e (by simp)
    have old : ∀ b o, hp.get? b = some o → G.get? b = some o := fun b o z => (gk b (Nat.ne_of_lt (Nat.lt_of_lt_of_le (Heap.lt_size z) M.new))).trans (M.keep b o z)
    have ob : ObjOk X.prog X.w (upd H1 d (.xd [(f, v)])) G d (.xd [(f, v)]) := ⟨_, M.ns.at (fun o z => (gk d M.ne).trans z), fun y => relO_one rv⟩
    have J : L2.Inv X pins σ (upd H1 d (.xd [(f, v)])) ⟨G, g, dr, tk', os⟩ := I1.laid (t' := tk') old M.big ob
    refine ⟨e, oe, fv, ⟨G, g, dr, tk', os⟩, _, .ref C, some d, rfl, J, fun b o z => ?_, ge, hoe, ⟨hc, hd⟩, hdat, h1, ?_, rfl, I1.bare, raises_own T.exC T.tyC, q1 d (I1.hok.fresh M.big)⟩
    · by_cases hb : b = e
      · have z' : G.get? b = some o := z
        rw [hb, ge] at z'; cases z'
      · exact (gk b hb).symm.trans z
    · rw [upd_ne (Ne.symm M.ne)]
      exact I1.hok.fresh M.new
end EV

set_option maxRecDepth 100000
set_option maxHeartbeats 4000000
namespace EV
open PySem L2 PyProof.Rows He
/-- as hookD, with further checks of the fragment -/
def obsX (fa : List Fa) (fn : List DefD) (ex : List (PySem.W.Frag → Bool)) (K : PySem.W.Frag) : AlD := ((obsD fa fn K).1 && ex.all fun q => q K, (obsD fa fn K).2)
def SaysX (fa : List Fa) (fn : List DefD) (ex : List (PySem.W.Frag → Bool)) (K : PySem.W.Frag) : Prop := obsX fa fn ex K = valD fn
def obsXG (n : Nat) (fa : List Fa) (fn : List DefD) (ex : List (PySem.W.Frag → Bool)) (g : Addr → Option PySem.Obj) : AlD := obsX fa fn ex (frG g (He.asD g n))
def hookX (n : Nat) (fa : List Fa) (fn : List DefD) (ex : List (PySem.W.Frag → Bool)) : PySem.W.Hook where
  α := AlD
  obs := fun s => obsXG n fa fn ex s.heap.get?
  val := fun _ => valD fn
  says := fun _ h => ∃ K : PySem.W.Frag, K.In h ∧ SaysX fa fn ex K
  of := fun _ _ e => ⟨_, frG_in, e⟩
  keeps := fun _ _ _ ⟨K, hK, c⟩ k => ⟨K, PySem.W.Frag.In.keeps hK k, c⟩
theorem obsXG_eq {n : Nat} {fa : List Fa} {fn : List DefD} {ex : List (PySem.W.Frag → Bool)} {g : Addr → Option PySem.Obj} {s : Shared} (h : ∀ a, g a = s.heap.get? a) : obsXG n fa fn ex g = (hookX n fa fn ex).obs s := by
  obtain rfl : g = s.heap.get? := funext h
  rfl
section
variable {fa : List Fa} {fn : List DefD} {ex : List (PySem.W.Frag → Bool)} {K : PySem.W.Frag}
theorem SaysX.both (c : SaysX fa fn ex K) : SaysD fa fn K ∧ (ex.all fun q => q K) = true := by
  have c' : obsX fa fn ex K = valD fn := c
  have e1 : (obsX fa fn ex K).1 = true := congrArg (fun z : AlD => z.1) c'
  have e2 : (obsX fa fn ex K).2 = (valD fn).2 := congrArg (fun z : AlD => z.2) c'
  have e1 : ((obsD fa fn K).1 && ex.all fun q => q K) = true := e1
  rw [Bool.and_eq_true] at e1
  exact ⟨Prod.ext e1.1 e2, e1.2⟩
theorem SaysX.more (c : SaysX fa fn ex K) (i : Nat) {q : PySem.W.Frag → Bool} (h : ex[i]? = some q) : q K = true := List.all_eq_true.mp c.both.2 q (List.mem_of_getElem? h)
end
/-- the check of a class of exceptions with a field f, over the built-in class whose mro is bmB -/
def xclsB (x f : Str) (newId : String) (bmB : List Value) (K : PySem.W.Frag) : Bool :=
  (match K.lookup (ga K x) with
    | some ⟨.type "type", _, .cls cd, sl⟩ => cd.hasDict && !cd.hasDel && (match cd.mro, sl.toList with
      | .ref C' :: bm, [_, _, _, _, some (.builtin n), _] => C' == ga K x && n == newId && PySem.W.excTail bmB bm
      | _, _ => false)
    | _ => false) &&
  decide (PySem.W.findIn K (.ref (ga K x)) "__setattr__" = some (some (.builtin "object.__setattr__"))) && decide (PySem.W.findIn K (.ref (ga K x)) f = some none) &&
  decide (PySem.W.findIn K (.ref (ga K x)) "__init__" = some (some (.ref (ma K (ga K x) "__init__")))) && decide (PySem.W.typeIn K (.ref (ma K (ga K x) "__init__")) = some (.type "function")) &&
  PySem.W.keepIn K (.ref (ga K x)) && decide (PySem.W.subIn K (.ref (ga K x)) (.type "BaseException") = some true) && decide (PySem.W.typeIn K (.ref (ga K x)) = some (.type "type")) && xfB K (ga K x)
theorem xclsB_ok {x f : Str} {newId : String} {bmB : List Value} {K : PySem.W.Frag} {mg : Str → Option Value} (g : mg x = some (.ref (ga K x))) (h : xclsB x f newId bmB K = true) : Ex.XCls K mg x f (ga K x) (ma K (ga K x) "__init__") newId bmB ∧ XfC K (ga K x) := by
  unfold xclsB at h
  simp only [Bool.and_eq_true, decide_eq_true_eq] at h
  obtain ⟨⟨⟨⟨⟨⟨⟨⟨h1, h2⟩, h3⟩, h4⟩, h5⟩, h6⟩, h7⟩, h8⟩, h9⟩ := h
  refine ⟨⟨g, ?_, h2, h3, h4, h5, h6, h7, h8⟩, xfB_ok h9⟩
  split at h1
  · rename_i dd cd sl ho
    simp only [Bool.and_eq_true, Bool.not_eq_true'] at h1
    obtain ⟨⟨q1, q2⟩, q3⟩ := h1
    split at q3
    · rename_i C' bm k0 k1 k2 k3 n k5 hm hs
      simp only [Bool.and_eq_true, beq_iff_eq] at q3
      obtain ⟨⟨e1, rfl⟩, ht⟩ := q3
      obtain ⟨nm, bs, mro, ns, qn, hd, sn, sub, ab, col, del⟩ := cd
      dsimp only at hm q1 q2
      subst hm q1 q2
      have hsl : sl = #[k0, k1, k2, k3, some (.builtin n), k5] := by
        obtain ⟨l⟩ := sl
        simp only at hs
        rw [hs]
      subst hsl
      subst e1
      exact ⟨nm, qn, ns, bs, bm, sn, sub, ab, col, dd, k0, k1, k2, k3, k5, ho, ht⟩
    · cases q3
  · cases h1
theorem xinit_ok {K : PySem.W.Frag} {f nm qn : Str} {as : Arguments} {sc : Scope} {fI : Addr} {fd : FuncData} {q1 q2 q3 q4 : Pos} (ne : f ≠ ("self" : Str)) (nd : (f == ("__debug__" : Str)) = false)
    (F : FunD K nm qn as [.Assign [.Attribute (.Name "self" q1) f q2] (.Name f q3) q4] sc [] [] fI fd) (hb : ∀ (s : Shared) (u v : Value), BindsTo s fd ⟨[u, v], []⟩ [("self", u), (f, v)])
    (l1 : sc.names.lookup ("self" : Str) = some NameKind.local) (l2 : sc.names.lookup f = some NameKind.local) (hco : sc.isCoroutine = false) (hge : sc.isGenerator = false) (hki : sc.kind = .function) : Ex.XInit K f fI := by
  obtain ⟨oc, od, dV, kV, doc, pm, an, cdv, ct, osl, rfl, lk, hcd, _, _⟩ := F.ex
  exact ⟨ne, nd, oc, od, nm, qn, as, sc, dV, kV, doc, pm, an, cdv, ct, osl, q1, q2, q3, q4, lk, hcd, hb, l1, l2, hco, hge, hki⟩
section
variable {P : Pr} {Y : Lay} {prog : Program} {w : World} {K : PySem.W.Frag} {mg : Str → Option Value} {base : Heap} {k n : Nat} {x f : Str}
theorem exk_field {B newId initId : String} {bmB : List Value} (FB : ExcBaseFacts B newId initId bmB) (SF : StoreFacts B bmB "object.__setattr__" "object") (hobj : bmB.contains (.type "object") = true) (hne : bmB ≠ []) (hc : Y.cls n = some (ga K x)) (he : Y.ef n = some f) (g : mg x = some (.ref (ga K x)))
    (exm : ∀ c1 C1, Y.cls c1 = some C1 → PySem.W.exmOne K (.ref C1) (.ref (ga K x)) = some (P.sub c1 n)) (h : xclsB x f newId bmB K = true) (TI : Ex.XInit K f (ma K (ga K x) "__init__")) (hdb : (x == ("__debug__" : Str)) = false) : ExK P Y prog w K mg base k x n (some f) := by
  obtain ⟨T, XF⟩ := xclsB_ok g h
  refine ⟨ga K x, hc, g, exm, he, XF, T.noN, fun X e1 e2 e3 e4 e5 hr e ta p p2 hs hg ha => ?_⟩
  refine pmk_X (fI := ma K (ga K x) "__init__") FB SF hobj hne ?_ ?_ hr ha hg hdb hs
  · rw [e3, e4]; exact T
  · rw [e3]; exact TI
theorem exk_text (hc : Y.cls n = some (ga K x)) (g : mg x = some (.ref (ga K x))) (exm : ∀ c1 C1, Y.cls c1 = some C1 → PySem.W.exmOne K (.ref C1) (.ref (ga K x)) = some (P.sub c1 n)) (h : (Fa.exc x).ok K = true) (hdb : (x == ("__debug__" : Str)) = false) :
    ExK P Y prog w K mg base k x n none := by
  obtain ⟨h1, h2, h3, h4⟩ := exc_ok h
  refine ⟨ga K x, hc, g, exm, fun X e1 e2 e3 e4 e5 hr m j p p2 p3 hg => ?_⟩
  refine pmk_own (C := ga K x) F.excBase_ValueError (by rw [e3]; exact h1) (by rw [e4]; exact g) (by rw [e3]; exact h2) (raises_own (by rw [e3]; exact h3) (by rw [e3]; exact h4)) hg hdb
end
end EV

set_option maxRecDepth 100000
namespace K01
open EV
def sub (a b : Nat) : Bool := match a, b with | 0, 0 => true | _, _ => false
def b0 : List IS := [
  .asg (.nm 2) (.con (.str [32, 65, 97, 98, 122])),
  .for_ (.nm 3) (.rng1 (.bn false .min [(.bn false .len [(.var 0)]), (.bn false .len [(.var 1)])])) [
    .ifs (.cmp .ne (.idx (.var 0) (.var 3)) (.idx (.var 1) (.var 3))) [
      .ret (.cmp .lt (.mn false .index (.var 2) [(.idx (.var 0) (.var 3))]) (.mn false .index (.var 2) [(.idx (.var 1) (.var 3))]))] []],
  .ret (.cmp .lt (.bn false .len [(.var 0)]) (.bn false .len [(.var 1)]))]
def P0 : Pr := ⟨fun j => match j with | _ => fun _ _ => .bad, sub⟩
def F0 : Fn := runF P0 4 b0
def b1 : List IS := [
  .asg (.nm 1) (.lst false []),
  .for_ (.nm 2) (.val (.var 0)) [
    .asg (.nm 3) (.con (.int 0)),
    .wh 1000000 (.and (.cmp .lt (.var 3) (.bn false .len [(.var 1)])) (.call false 0 [(.idx (.var 1) (.var 3)), (.var 2)])) [
      .asg (.nm 3) (.bin .add (.var 3) (.con (.int 1)))],
    .asg (.nm 1) (.ite (.cmp .notIn (.var 2) (.var 1)) (.bin .add (.bin .add (.slice (.var 1) none (some (.var 3))) (.lst false [(.var 2)])) (.slice (.var 1) (some (.var 3)) none)) (.var 1))],
  .ret (.bn false .dict [(.comp false [2, 3] (.tup [(.nm 3), (.nm 2)]) (.enum (.var 1)) [] (.tup [(.var 2), (.var 3)]))])]
def P1 : Pr := ⟨fun j => match j with | 0 => F0 | _ => fun _ _ => .bad, sub⟩
def F1 : Fn := runF P1 4 b1
def b2 : List IS := [
  .par [2, 3] [(.lst true [(.tup [])]), (.lst false [(.tup [])])],
  .for_ (.nm 1) (.rng1 (.con (.int 4))) [
    .asg (.nm 4) (.lst true []),
    .for_ (.nm 5) (.val (.bn false .list [(.var 3)])) [
      .ex (.ext (.var 4) (.comp false [6] (.nm 6) (.val (.var 0)) [] (.bin .add (.var 5) (.tup [(.var 6)]))))],
    .ex (.ext (.var 2) (.var 4)),
    .asg (.nm 3) (.bn false .list [(.var 4)])],
  .ret (.var 2)]
def P2 : Pr := ⟨fun j => match j with | 0 => F0 | 1 => F1 | _ => fun _ _ => .bad, sub⟩
def F2 : Fn := runF P2 7 b2
def b3 : List IS := [
  .ifs (.cmp .gt (.idx (.var 0) (.con (.int 0))) (.con (.int 0))) [
    .asg (.nm 4) (.bin .mod (.bn false .int [(.idx (.var 0) (.con (.int 0)))]) (.var 1)),
    .setI (.var 0) (.con (.int 0)) (.bin .fdiv (.idx (.var 0) (.con (.int 0))) (.var 1)),
    .ret (.var 4)] [],
  .setI (.var 0) (.con (.int 2)) (.bin .add (.idx (.var 0) (.con (.int 2))) (.con (.int 1))),
  .asg (.nm 2) (.bin .mod (.bn false .int [(.bin .add (.idx (.var 0) (.con (.int 1))) (.bin .mul (.con (.int 7919)) (.idx (.var 0) (.con (.int 2)))))]) (.con (.int 2305843009213693907))),
  .asg (.nm 3) (.bin .add (.bin .mul (.bin .mod (.bn false .int [(.bin .add (.bin .mul (.var 2) (.var 2)) (.bin .mul (.con (.int 61)) (.idx (.var 0) (.con (.int 2)))))]) (.con (.int 2305843009213693921))) (.con (.int 6700417))) (.var 2)),
  .ret (.bin .mod (.bn false .int [(.bin .fdiv (.var 3) (.con (.int 32768)))]) (.var 1))]
def P3 : Pr := ⟨fun j => match j with | 0 => F0 | 1 => F1 | 2 => F2 | _ => fun _ _ => .bad, sub⟩
def F3 : Fn := runF P3 5 b3
def b4 : List IS := [
  .ret (.idx (.var 1) (.call false 3 [(.var 0), (.bn false .len [(.var 1)])]))]
def P4 : Pr := ⟨fun j => match j with | 0 => F0 | 1 => F1 | 2 => F2 | 3 => F3 | _ => fun _ _ => .bad, sub⟩
def F4 : Fn := runF P4 2 b4
def b5 : List IS := [
  .asg (.nm 1) (.mn false .join (.con (.str [])) [(.comp false [2] (.nm 2) (.rng1 (.bin .add (.con (.int 1)) (.call false 3 [(.var 0), (.con (.int 2))]))) [] (.call false 4 [(.var 0), (.con (.str [97, 97, 98, 122]))]))]),
  .ret (.call false 4 [(.var 0), (.lst false [(.var 1), (.var 1), (.var 1), (.var 1), (.bin .add (.var 1) (.con (.str [97, 97, 97, 97, 97, 97, 97]))), (.bin .add (.var 1) (.con (.str [65]))), (.con (.str [])), (.bin .add (.var 1) (.con (.str [32])))])])]
def P5 : Pr := ⟨fun j => match j with | 0 => F0 | 1 => F1 | 2 => F2 | 3 => F3 | 4 => F4 | _ => fun _ _ => .bad, sub⟩
def F5 : Fn := runF P5 3 b5
def b6 : List IS := [
  .ret (.and (.bn false (.isin 1) [(.var 0)]) (.and (.not (.bn false (.isin 2) [(.var 0)])) (.chain .lt .lt (.neg (.con (.int 1000000000000000000000000000000000000000000000000000000000000))) (.var 0) (.con (.int 1000000000000000000000000000000000000000000000000000000000000)))))]
def P6 : Pr := ⟨fun j => match j with | 0 => F0 | 1 => F1 | 2 => F2 | 3 => F3 | 4 => F4 | 5 => F5 | _ => fun _ _ => .bad, sub⟩
def F6 : Fn := runF P6 1 b6
def b7 : List IS := [
  .ret (.and (.call false 6 [(.var 0)]) (.cmp .ge (.var 0) (.con (.int 0))))]
def P7 : Pr := ⟨fun j => match j with | 0 => F0 | 1 => F1 | 2 => F2 | 3 => F3 | 4 => F4 | 5 => F5 | 6 => F6 | _ => fun _ _ => .bad, sub⟩
def F7 : Fn := runF P7 1 b7
def b8 : List IS := [
  .ifs (.or (.not (.bn false (.isin 0) [(.var 0)])) (.not (.chain .le .le (.con (.int 1)) (.bn false .len [(.var 0)]) (.con (.int 8))))) [
    .ret (.con (.bl false))] [],
  .ret (.bn false .all [(.comp false [1] (.nm 1) (.val (.var 0)) [] (.cmp .in_ (.var 1) (.con (.str [97, 98, 99, 100, 101, 102, 103, 104, 105, 106, 107, 108, 109, 110, 111, 112, 113, 114, 115, 116, 117, 118, 119, 120, 121, 122]))))])]
def P8 : Pr := ⟨fun j => match j with | 0 => F0 | 1 => F1 | 2 => F2 | 3 => F3 | 4 => F4 | 5 => F5 | 6 => F6 | 7 => F7 | _ => fun _ _ => .bad, sub⟩
def F8 : Fn := runF P8 2 b8
def b9 : List IS := [
  .ifs (.or (.not (.bn false (.isin 3) [(.var 0)])) (.not (.bn false .all [(.comp false [3] (.nm 3) (.val (.var 0)) [] (.call false 8 [(.var 3)]))]))) [
    .ret (.con (.bl false))] [],
  .ret (.bn false .all [(.comp false [1, 2] (.tup [(.nm 1), (.nm 2)]) (.zip (.var 0) (.slice (.var 0) (some (.con (.int 1))) none)) [] (.cmp .le (.var 1) (.var 2)))])]
def P9 : Pr := ⟨fun j => match j with | 0 => F0 | 1 => F1 | 2 => F2 | 3 => F3 | 4 => F4 | 5 => F5 | 6 => F6 | 7 => F7 | 8 => F8 | _ => fun _ _ => .bad, sub⟩
def F9 : Fn := runF P9 4 b9
def b10 : List IS := [
  .ifs (.not (.call false 7 [(.var 1)])) [
    .raise 0 (.var 1)] [],
  .ret (.and (.call false 9 [(.var 0)]) (.cmp .le (.bn false .len [(.var 0)]) (.var 1)))]
def P10 : Pr := ⟨fun j => match j with | 0 => F0 | 1 => F1 | 2 => F2 | 3 => F3 | 4 => F4 | 5 => F5 | 6 => F6 | 7 => F7 | 8 => F8 | 9 => F9 | _ => fun _ _ => .bad, sub⟩
def F10 : Fn := runF P10 2 b10
def b11 : List IS := [
  .try_ [
    .ret (.callk false 10 [(.var 0)] [(.var 1)])] 0 (some 2) (.plus (.con (.str [110, 117, 109, 98, 101, 114, 32])) (.rep .arg))]
def P11 : Pr := ⟨fun j => match j with | 0 => F0 | 1 => F1 | 2 => F2 | 3 => F3 | 4 => F4 | 5 => F5 | 6 => F6 | 7 => F7 | 8 => F8 | 9 => F9 | 10 => F10 | _ => fun _ _ => .bad, sub⟩
def F11 : Fn := runF P11 3 b11
def b12 : List IS := [
  .ret (.and (.chain .lt .lt (.con (.int 0)) (.bn false .len [(.var 0)]) (.con (.int 9))) (.and (.cmp .eq (.mn false .lower (.var 0) []) (.var 0)) (.mn false .isalpha (.var 0) [])))]
def P12 : Pr := ⟨fun j => match j with | 0 => F0 | 1 => F1 | 2 => F2 | 3 => F3 | 4 => F4 | 5 => F5 | 6 => F6 | 7 => F7 | 8 => F8 | 9 => F9 | 10 => F10 | 11 => F11 | _ => fun _ _ => .bad, sub⟩
def F12 : Fn := runF P12 1 b12
def b13 : List IS := [
  .asg (.nm 1) (.comp false [9] (.nm 9) (.rng1 (.con (.int 3))) [] (.call false 5 [(.var 0)])),
  .asg (.nm 2) (.call false 1 [(.var 1)]),
  .for_ (.nm 3) (.val (.call false 2 [(.var 1)])) [
    .asg (.nm 5) (.comp false [11] (.nm 11) (.val (.var 3)) [] (.idx (.var 2) (.var 11))),
    .asg (.nm 6) (.and (.cmp .eq (.var 5) (.bn false .sorted [(.var 5)])) (.cmp .eq (.comp false [11] (.nm 11) (.val (.var 3)) [(.not (.call false 12 [(.var 11)]))] (.var 11)) (.lst false []))),
    .for_ (.nm 4) (.rng1 (.con (.int 6))) [
      .ifs (.cmp .ne (.bn false .repr [(.call false 11 [(.var 3), (.var 4)])]) (.bn false .repr [(.and (.var 6) (.cmp .le (.bn false .len [(.var 3)]) (.var 4)))])) [
        .ret (.con (.bl false))] []]],
  .for_ (.nm 4) (.val (.lst false [(.neg (.con (.int 1))), (.con (.bl true)), (.con (.bl false)), (.con .non), (.con (.str [51])), (.tup [(.con (.int 3))]), (.bin .pow (.con (.int 10)) (.con (.int 60))), (.neg (.bin .pow (.con (.int 10)) (.con (.int 59)))), (.bin .add (.con (.int 3)) (.call false 3 [(.var 0), (.bin .pow (.con (.int 10)) (.con (.int 59)))]))])) [
    .asg (.nm 7) (.and (.bn false (.isin 1) [(.var 4)]) (.and (.not (.bn false (.isin 2) [(.var 4)])) (.chain .le .lt (.con (.int 0)) (.var 4) (.bin .pow (.con (.int 10)) (.con (.int 60)))))),
    .for_ (.nm 8) (.val (.lst false [(.tup []), (.tup [(.con (.str [97])), (.con (.str [98])), (.con (.str [98]))]), (.tup [(.con (.str [98])), (.con (.str [97]))]), (.con .non), (.lst false [(.con (.str [97]))]), (.con (.str [97, 98])), (.dct [(.con (.str [97])), (.con (.str [98]))]), (.tup [(.con (.str [97])), (.con (.int 7))]), (.tup [(.tup [(.con (.str [97]))])]), (.con (.int 7))])) [
      .asg (.nm 10) (.ite (.var 7) (.cmp .in_ (.var 8) (.lst false [(.tup []), (.tup [(.con (.str [97])), (.con (.str [98])), (.con (.str [98]))])])) (.bin .add (.con (.str [110, 117, 109, 98, 101, 114, 32])) (.bn false .repr [(.var 4)]))),
      .ifs (.cmp .ne (.bn false .repr [(.call false 11 [(.var 8), (.var 4)])]) (.bn false .repr [(.var 10)])) [
        .ret (.con (.bl false))] []]],
  .ret (.con (.bl true))]
def P13 : Pr := ⟨fun j => match j with | 0 => F0 | 1 => F1 | 2 => F2 | 3 => F3 | 4 => F4 | 5 => F5 | 6 => F6 | 7 => F7 | 8 => F8 | 9 => F9 | 10 => F10 | 11 => F11 | 12 => F12 | _ => fun _ _ => .bad, sub⟩
def F13 : Fn := runF P13 12 b13
def b14 : List IS := [
  .asg (.nm 2) (.ite (.cmp .lt (.var 1) (.bn false .len [(.var 0)])) (.bn false .int [(.idx (.var 0) (.var 1))]) (.bin .add (.bin .mul (.con (.int 37)) (.var 1)) (.con (.int 5)))),
  .asg (.nm 3) (.bin .mod (.bn false .max [(.con (.int 0)), (.bin .sub (.bn false .abs [(.var 2)]) (.bin .pow (.con (.int 10)) (.con (.int 17))))]) (.bin .mul (.bin .pow (.con (.int 10)) (.con (.int 60))) (.bin .pow (.con (.int 10)) (.con (.int 60))))),
  .ret (.lst true [(.var 3), (.bin .add (.bin .add (.bin .add (.bin .mul (.bin .mod (.bn false .abs [(.var 2)]) (.con (.int 2147483629))) (.con (.int 31))) (.bin .mul (.con (.int 577)) (.var 1))) (.bin .mul (.con (.int 13)) (.bn false .int [(.cmp .lt (.var 2) (.con (.int 0)))]))) (.con (.int 3))), (.con (.int 0))])]
def P14 : Pr := ⟨fun j => match j with | 0 => F0 | 1 => F1 | 2 => F2 | 3 => F3 | 4 => F4 | 5 => F5 | 6 => F6 | 7 => F7 | 8 => F8 | 9 => F9 | 10 => F10 | 11 => F11 | 12 => F12 | 13 => F13 | _ => fun _ _ => .bad, sub⟩
def F14 : Fn := runF P14 4 b14
def b15 : List IS := [
  .for_ (.nm 1) (.rng1 (.bn false .max [(.con (.int 1)), (.bn false .min [(.con (.int 3)), (.bn false .len [(.var 0)])])])) [
    .ifs (.not (.call false 13 [(.call true 14 [(.var 0), (.var 1)])])) [
      .ret (.con (.bl false))] []],
  .ret (.con (.bl true))]
def P15 : Pr := ⟨fun j => match j with | 0 => F0 | 1 => F1 | 2 => F2 | 3 => F3 | 4 => F4 | 5 => F5 | 6 => F6 | 7 => F7 | 8 => F8 | 9 => F9 | 10 => F10 | 11 => F11 | 12 => F12 | 13 => F13 | 14 => F14 | _ => fun _ _ => .bad, sub⟩
def F15 : Fn := runF P15 2 b15
end K01

set_option maxRecDepth 100000
set_option maxHeartbeats 0

namespace K01
open PySem PySem.Spec PyProof.Rows L2 EV
def con : List (Str × D) := [("MAX_LETTERS", (.int 8)), ("LETTERS", (.str [97, 98, 99, 100, 101, 102, 103, 104, 105, 106, 107, 108, 109, 110, 111, 112, 113, 114, 115, 116, 117, 118, 119, 120, 121, 122])), ("LIMIT", (.int 1000000000000000000000000000000000000000000000000000000000000))]
def blt : List Str := ["abs", "all", "bool", "dict", "enumerate", "int", "isinstance", "len", "list", "max", "min", "range", "repr", "sorted", "str", "tuple", "zip"]
def exs : List (Str × Nat × Option Str) := [("InvalidNumber", 0, some "value")]
def top (i : Nat) : Stmt := PySem.Challenge.pw_linkbooks_k01_whole_sorted_tuples.main.body.getD i (.Pass ⟨0, 0, 0, 0⟩)
def inCls (s : Stmt) (i : Nat) : Stmt := match s with
  | .ClassDef _ _ _ b _ _ _ _ _ _ _ => b.getD i (.Pass ⟨0, 0, 0, 0⟩)
  | s => s
abbrev st0 : Stmt := top 18
def N0 : List Str := ["one", "other", "signs", "at"]
def fns0 : List (Str × Nat × Nat) := []
def fks0 : List (Str × Nat × Nat × List Str) := []
theorem ck0 : chkB ⟨N0, defScope st0, con, blt, fns0, fks0, true, exs⟩ 60 (defBody st0) b0 = true := by decide +kernel
theorem sc0 : FnScope N0 ["one", "other"] (defScope st0) := ⟨rfl, rfl, rfl, by decide +kernel, rfl, by decide +kernel, by decide +kernel⟩
def d0 : He.DefD := ⟨("_law_is_less", none), "_law_is_less", "_law_is_less", defArgs st0, defBody st0, defScope st0, [], []⟩
abbrev st1 : Stmt := top 17
def N1 : List Str := ["words", "row", "word", "at"]
def fns1 : List (Str × Nat × Nat) := [("_law_is_less", 0, 2)]
def fks1 : List (Str × Nat × Nat × List Str) := []
theorem ck1 : chkB ⟨N1, defScope st1, con, blt, fns1, fks1, true, exs⟩ 60 (defBody st1) b1 = true := by decide +kernel
theorem sc1 : FnScope N1 ["words"] (defScope st1) := ⟨rfl, rfl, rfl, by decide +kernel, rfl, by decide +kernel, by decide +kernel⟩
def d1 : He.DefD := ⟨("_law_places", none), "_law_places", "_law_places", defArgs st1, defBody st1, defScope st1, [], []⟩
abbrev st2 : Stmt := top 20
def N2 : List Str := ["words", "turn", "found", "layer", "longer", "row", "word"]
def fns2 : List (Str × Nat × Nat) := [("_law_is_less", 0, 2), ("_law_places", 1, 1)]
def fks2 : List (Str × Nat × Nat × List Str) := []
theorem ck2 : chkB ⟨N2, defScope st2, con, blt, fns2, fks2, true, exs⟩ 60 (defBody st2) b2 = true := by decide +kernel
theorem sc2 : FnScope N2 ["words"] (defScope st2) := ⟨rfl, rfl, rfl, by decide +kernel, rfl, by decide +kernel, by decide +kernel⟩
def d2 : He.DefD := ⟨("_law_tuples", none), "_law_tuples", "_law_tuples", defArgs st2, defBody st2, defScope st2, [], []⟩
abbrev st3 : Stmt := top 13
def N3 : List Str := ["dice", "total", "one", "two", "found"]
def fns3 : List (Str × Nat × Nat) := [("_law_is_less", 0, 2), ("_law_places", 1, 1), ("_law_tuples", 2, 1)]
def fks3 : List (Str × Nat × Nat × List Str) := []
theorem ck3 : chkB ⟨N3, defScope st3, con, blt, fns3, fks3, true, exs⟩ 60 (defBody st3) b3 = true := by decide +kernel
theorem sc3 : FnScope N3 ["dice", "total"] (defScope st3) := ⟨rfl, rfl, rfl, by decide +kernel, rfl, by decide +kernel, by decide +kernel⟩
def d3 : He.DefD := ⟨("_law_roll", none), "_law_roll", "_law_roll", defArgs st3, defBody st3, defScope st3, [], []⟩
abbrev st4 : Stmt := top 14
def N4 : List Str := ["dice", "items"]
def fns4 : List (Str × Nat × Nat) := [("_law_is_less", 0, 2), ("_law_places", 1, 1), ("_law_tuples", 2, 1), ("_law_roll", 3, 2)]
def fks4 : List (Str × Nat × Nat × List Str) := []
theorem ck4 : chkB ⟨N4, defScope st4, con, blt, fns4, fks4, true, exs⟩ 60 (defBody st4) b4 = true := by decide +kernel
theorem sc4 : FnScope N4 ["dice", "items"] (defScope st4) := ⟨rfl, rfl, rfl, by decide +kernel, rfl, by decide +kernel, by decide +kernel⟩
def d4 : He.DefD := ⟨("_law_pick", none), "_law_pick", "_law_pick", defArgs st4, defBody st4, defScope st4, [], []⟩
abbrev st5 : Stmt := top 15
def N5 : List Str := ["dice", "word", "turn"]
def fns5 : List (Str × Nat × Nat) := [("_law_is_less", 0, 2), ("_law_places", 1, 1), ("_law_tuples", 2, 1), ("_law_roll", 3, 2), ("_law_pick", 4, 2)]
def fks5 : List (Str × Nat × Nat × List Str) := []
theorem ck5 : chkB ⟨N5, defScope st5, con, blt, fns5, fks5, true, exs⟩ 60 (defBody st5) b5 = true := by decide +kernel
theorem sc5 : FnScope N5 ["dice"] (defScope st5) := ⟨rfl, rfl, rfl, by decide +kernel, rfl, by decide +kernel, by decide +kernel⟩
def d5 : He.DefD := ⟨("_law_word", none), "_law_word", "_law_word", defArgs st5, defBody st5, defScope st5, [], []⟩
abbrev st6 : Stmt := top 6
def N6 : List Str := ["value"]
def fns6 : List (Str × Nat × Nat) := [("_law_is_less", 0, 2), ("_law_places", 1, 1), ("_law_tuples", 2, 1), ("_law_roll", 3, 2), ("_law_pick", 4, 2), ("_law_word", 5, 1)]
def fks6 : List (Str × Nat × Nat × List Str) := []
theorem ck6 : chkB ⟨N6, defScope st6, con, blt, fns6, fks6, true, exs⟩ 60 (defBody st6) b6 = true := by decide +kernel
theorem sc6 : FnScope N6 ["value"] (defScope st6) := ⟨rfl, rfl, rfl, by decide +kernel, rfl, by decide +kernel, by decide +kernel⟩
def d6 : He.DefD := ⟨("is_integer", none), "is_integer", "is_integer", defArgs st6, defBody st6, defScope st6, [], []⟩
abbrev st7 : Stmt := top 7
def N7 : List Str := ["value"]
def fns7 : List (Str × Nat × Nat) := [("_law_is_less", 0, 2), ("_law_places", 1, 1), ("_law_tuples", 2, 1), ("_law_roll", 3, 2), ("_law_pick", 4, 2), ("_law_word", 5, 1), ("is_integer", 6, 1)]
def fks7 : List (Str × Nat × Nat × List Str) := []
theorem ck7 : chkB ⟨N7, defScope st7, con, blt, fns7, fks7, true, exs⟩ 60 (defBody st7) b7 = true := by decide +kernel
theorem sc7 : FnScope N7 ["value"] (defScope st7) := ⟨rfl, rfl, rfl, by decide +kernel, rfl, by decide +kernel, by decide +kernel⟩
def d7 : He.DefD := ⟨("is_count", none), "is_count", "is_count", defArgs st7, defBody st7, defScope st7, [], []⟩
abbrev st8 : Stmt := top 8
def N8 : List Str := ["value", "letter"]
def fns8 : List (Str × Nat × Nat) := [("_law_is_less", 0, 2), ("_law_places", 1, 1), ("_law_tuples", 2, 1), ("_law_roll", 3, 2), ("_law_pick", 4, 2), ("_law_word", 5, 1), ("is_integer", 6, 1), ("is_count", 7, 1)]
def fks8 : List (Str × Nat × Nat × List Str) := []
theorem ck8 : chkB ⟨N8, defScope st8, con, blt, fns8, fks8, true, exs⟩ 60 (defBody st8) b8 = true := by decide +kernel
theorem sc8 : FnScope N8 ["value"] (defScope st8) := ⟨rfl, rfl, rfl, by decide +kernel, rfl, by decide +kernel, by decide +kernel⟩
def d8 : He.DefD := ⟨("is_name", none), "is_name", "is_name", defArgs st8, defBody st8, defScope st8, [], []⟩
abbrev st9 : Stmt := top 9
def N9 : List Str := ["value", "one", "other", "name"]
def fns9 : List (Str × Nat × Nat) := [("_law_is_less", 0, 2), ("_law_places", 1, 1), ("_law_tuples", 2, 1), ("_law_roll", 3, 2), ("_law_pick", 4, 2), ("_law_word", 5, 1), ("is_integer", 6, 1), ("is_count", 7, 1), ("is_name", 8, 1)]
def fks9 : List (Str × Nat × Nat × List Str) := []
theorem ck9 : chkB ⟨N9, defScope st9, con, blt, fns9, fks9, true, exs⟩ 60 (defBody st9) b9 = true := by decide +kernel
theorem sc9 : FnScope N9 ["value"] (defScope st9) := ⟨rfl, rfl, rfl, by decide +kernel, rfl, by decide +kernel, by decide +kernel⟩
def d9 : He.DefD := ⟨("are_sorted", none), "are_sorted", "are_sorted", defArgs st9, defBody st9, defScope st9, [], []⟩
abbrev st10 : Stmt := top 10
def N10 : List Str := ["value", "most"]
def fns10 : List (Str × Nat × Nat) := [("_law_is_less", 0, 2), ("_law_places", 1, 1), ("_law_tuples", 2, 1), ("_law_roll", 3, 2), ("_law_pick", 4, 2), ("_law_word", 5, 1), ("is_integer", 6, 1), ("is_count", 7, 1), ("is_name", 8, 1), ("are_sorted", 9, 1)]
def fks10 : List (Str × Nat × Nat × List Str) := []
theorem ck10 : chkB ⟨N10, defScope st10, con, blt, fns10, fks10, true, exs⟩ 60 (defBody st10) b10 = true := by decide +kernel
theorem sc10 : FnScope N10 ["value", "most"] (defScope st10) := ⟨rfl, rfl, rfl, by decide +kernel, rfl, by decide +kernel, by decide +kernel⟩
def d10 : He.DefD := ⟨("is_sorted", none), "is_sorted", "is_sorted", defArgs st10, defBody st10, defScope st10, [], []⟩
abbrev st11 : Stmt := top 19
def N11 : List Str := ["value", "limit", "e"]
def fns11 : List (Str × Nat × Nat) := [("_law_is_less", 0, 2), ("_law_places", 1, 1), ("_law_tuples", 2, 1), ("_law_roll", 3, 2), ("_law_pick", 4, 2), ("_law_word", 5, 1), ("is_integer", 6, 1), ("is_count", 7, 1), ("is_name", 8, 1), ("are_sorted", 9, 1)]
def fks11 : List (Str × Nat × Nat × List Str) := [("is_sorted", 10, 1, ["most"])]
theorem ck11 : chkB ⟨N11, defScope st11, con, blt, fns11, fks11, true, exs⟩ 60 (defBody st11) b11 = true := by decide +kernel
theorem sc11 : FnScope N11 ["value", "limit"] (defScope st11) := ⟨rfl, rfl, rfl, by decide +kernel, rfl, by decide +kernel, by decide +kernel⟩
def d11 : He.DefD := ⟨("_law_told", none), "_law_told", "_law_told", defArgs st11, defBody st11, defScope st11, [], []⟩
abbrev st12 : Stmt := top 16
def N12 : List Str := ["word"]
def fns12 : List (Str × Nat × Nat) := [("_law_is_less", 0, 2), ("_law_places", 1, 1), ("_law_tuples", 2, 1), ("_law_roll", 3, 2), ("_law_pick", 4, 2), ("_law_word", 5, 1), ("is_integer", 6, 1), ("is_count", 7, 1), ("is_name", 8, 1), ("are_sorted", 9, 1), ("_law_told", 11, 2)]
def fks12 : List (Str × Nat × Nat × List Str) := [("is_sorted", 10, 1, ["most"])]
theorem ck12 : chkB ⟨N12, defScope st12, con, blt, fns12, fks12, true, exs⟩ 60 (defBody st12) b12 = true := by decide +kernel
theorem sc12 : FnScope N12 ["word"] (defScope st12) := ⟨rfl, rfl, rfl, by decide +kernel, rfl, by decide +kernel, by decide +kernel⟩
def d12 : He.DefD := ⟨("_law_is_name", none), "_law_is_name", "_law_is_name", defArgs st12, defBody st12, defScope st12, [], []⟩
abbrev st13 : Stmt := top 21
def N13 : List Str := ["dice", "words", "places", "row", "limit", "spots", "is_due", "is_let", "value", "turn", "due", "word"]
def fns13 : List (Str × Nat × Nat) := [("_law_is_less", 0, 2), ("_law_places", 1, 1), ("_law_tuples", 2, 1), ("_law_roll", 3, 2), ("_law_pick", 4, 2), ("_law_word", 5, 1), ("is_integer", 6, 1), ("is_count", 7, 1), ("is_name", 8, 1), ("are_sorted", 9, 1), ("_law_told", 11, 2), ("_law_is_name", 12, 1)]
def fks13 : List (Str × Nat × Nat × List Str) := [("is_sorted", 10, 1, ["most"])]
theorem ck13 : chkB ⟨N13, defScope st13, con, blt, fns13, fks13, true, exs⟩ 60 (defBody st13) b13 = true := by decide +kernel
theorem sc13 : FnScope N13 ["dice"] (defScope st13) := ⟨rfl, rfl, rfl, by decide +kernel, rfl, by decide +kernel, by decide +kernel⟩
def d13 : He.DefD := ⟨("_law_right", none), "_law_right", "_law_right", defArgs st13, defBody st13, defScope st13, [], []⟩
abbrev st14 : Stmt := top 12
def N14 : List Str := ["script", "spot", "cell", "left"]
def fns14 : List (Str × Nat × Nat) := [("_law_is_less", 0, 2), ("_law_places", 1, 1), ("_law_tuples", 2, 1), ("_law_roll", 3, 2), ("_law_pick", 4, 2), ("_law_word", 5, 1), ("is_integer", 6, 1), ("is_count", 7, 1), ("is_name", 8, 1), ("are_sorted", 9, 1), ("_law_told", 11, 2), ("_law_is_name", 12, 1), ("_law_right", 13, 1)]
def fks14 : List (Str × Nat × Nat × List Str) := [("is_sorted", 10, 1, ["most"])]
theorem ck14 : chkB ⟨N14, defScope st14, con, blt, fns14, fks14, true, exs⟩ 60 (defBody st14) b14 = true := by decide +kernel
theorem sc14 : FnScope N14 ["script", "spot"] (defScope st14) := ⟨rfl, rfl, rfl, by decide +kernel, rfl, by decide +kernel, by decide +kernel⟩
def d14 : He.DefD := ⟨("_law_dice", none), "_law_dice", "_law_dice", defArgs st14, defBody st14, defScope st14, [], []⟩
abbrev st15 : Stmt := top 22
def N15 : List Str := ["script", "spot"]
def fns15 : List (Str × Nat × Nat) := [("_law_is_less", 0, 2), ("_law_places", 1, 1), ("_law_tuples", 2, 1), ("_law_roll", 3, 2), ("_law_pick", 4, 2), ("_law_word", 5, 1), ("is_integer", 6, 1), ("is_count", 7, 1), ("is_name", 8, 1), ("are_sorted", 9, 1), ("_law_told", 11, 2), ("_law_is_name", 12, 1), ("_law_right", 13, 1), ("_law_dice", 14, 2)]
def fks15 : List (Str × Nat × Nat × List Str) := [("is_sorted", 10, 1, ["most"])]
theorem ck15 : chkB ⟨N15, defScope st15, con, blt, fns15, fks15, true, exs⟩ 60 (defBody st15) b15 = true := by decide +kernel
theorem sc15 : FnScope N15 ["script"] (defScope st15) := ⟨rfl, rfl, rfl, by decide +kernel, rfl, by decide +kernel, by decide +kernel⟩
def d15 : He.DefD := ⟨("law", none), "law", "law", defArgs st15, defBody st15, defScope st15, [], []⟩
abbrev si0 : Stmt := inCls (top 1) 0
def e0 : He.DefD := ⟨("InvalidNumber", some "__init__"), "__init__", "InvalidNumber.__init__", defArgs si0, defBody si0, defScope si0, [], []⟩
def fn : List He.DefD := [d0, d1, d2, d3, d4, d5, d6, d7, d8, d9, d10, d11, d12, d13, d14, d15, e0]
def fa : List He.Fa := [.glo "_law_is_less", .glo "_law_places", .glo "_law_tuples", .glo "_law_roll", .glo "_law_pick", .glo "_law_word", .glo "is_integer", .glo "is_count", .glo "is_name", .glo "are_sorted", .glo "is_sorted", .glo "_law_told", .glo "_law_is_name", .glo "_law_right", .glo "_law_dice", .glo "law", .int "MAX_LETTERS" 8, .str "LETTERS" "abcdefghijklmnopqrstuvwxyz", .int "LIMIT" 1000000000000000000000000000000000000000000000000000000000000, .free "abs", .free "all", .free "bool", .free "dict", .free "enumerate", .free "int", .free "isinstance", .free "len", .free "list", .free "max", .free "min", .free "range", .free "repr", .free "sorted", .free "str", .free "tuple", .free "zip", .glo "InvalidNumber", .exm "InvalidNumber" "InvalidNumber" true]
def bm0 : List Value := [.type "IndexError", .type "LookupError", .type "Exception", .type "BaseException", .type "object"]
def ex : List (PySem.W.Frag → Bool) := [xclsB "InvalidNumber" "value" "IndexError.__new__" bm0]
abbrev Rw : PySem.W.OpenRow := PySem.W.OpenLaw.row PySem.Challenge.rw_linkbooks_k01_whole_sorted_tuples
abbrev hk : PySem.W.Hook := EV.hookX 4 fa fn ex
def ob (s : PySem.W.SharedT) : He.AlD := EV.obsXG 4 fa fn ex (HandSHeadRun.getT s)
theorem ob_eq (s : PySem.W.SharedT) : ob s = hk.obs s.abs := EV.obsXG_eq (HandSHeadRun.getT_eq s)
def loose : List PySem.Str := ["InvalidNumber", "MAX_LETTERS", "LETTERS", "LIMIT", "is_integer", "is_count", "is_name", "are_sorted", "is_sorted", "_law_dice", "_law_roll", "_law_pick", "_law_word", "_law_is_name", "_law_places", "_law_is_less", "_law_told", "_law_tuples", "_law_right"]
theorem run (w : World) : HandSHeadRun.RunEq Rw (PySem.W.view Rw.prog [22]) hk ob 2000 loose w := by
  intro os
  kernel_rfl
def lay (K : PySem.W.Frag) : Lay := ⟨K, fun n => match n with | 0 => some (He.ga K "InvalidNumber") | _ => none, fun _ => Str.empty, fun n => match n with | 0 => some "value" | _ => none⟩
section
variable {P : Program} {w : World} {K : PySem.W.Frag} {h base : Heap} {mg : Str → Option Value}
theorem h_con (X : K.In h) (G : h.Ns mainGlobals mg) (c : He.SaysD fa fn K) : ∀ p ∈ con, ∃ u v, mg p.1 = some u ∧ RelV v u ∧ Still (lay K) p.2 v := by
  intro p hp
  simp only [con, List.mem_cons, List.not_mem_nil, or_false] at hp
  rcases hp with rfl | rfl | rfl
  · obtain ⟨t, e⟩ := He.int_ok X G (c.fact 16 (f := .int "MAX_LETTERS" 8) rfl)
    exact ⟨_, .int 8, e, ⟨t, rfl⟩, fun _ _ => .int _⟩
  · obtain ⟨t, e⟩ := He.str_ok X G (c.fact 17 (f := .str "LETTERS" "abcdefghijklmnopqrstuvwxyz") rfl)
    refine ⟨_, .str "abcdefghijklmnopqrstuvwxyz", e, ⟨t, rfl⟩, fun av H => ?_⟩
    have k : ("abcdefghijklmnopqrstuvwxyz" : Str) = S [97, 98, 99, 100, 101, 102, 103, 104, 105, 106, 107, 108, 109, 110, 111, 112, 113, 114, 115, 116, 117, 118, 119, 120, 121, 122] := by decide +kernel
    rw [k]
    exact .str _
  · obtain ⟨t, e⟩ := He.int_ok X G (c.fact 18 (f := .int "LIMIT" 1000000000000000000000000000000000000000000000000000000000000) rfl)
    exact ⟨_, .int 1000000000000000000000000000000000000000000000000000000000000, e, ⟨t, rfl⟩, fun _ _ => .int _⟩
theorem h_blt (X : K.In h) (G : h.Ns mainGlobals mg) (c : He.SaysD fa fn K) : ∀ x ∈ blt, mg x = none := by
  intro x hx
  simp only [blt, List.mem_cons, List.not_mem_nil, or_false] at hx
  rcases hx with rfl | rfl | rfl | rfl | rfl | rfl | rfl | rfl | rfl | rfl | rfl | rfl | rfl | rfl | rfl | rfl | rfl
  · exact He.free_ok X G (c.fact 19 (f := .free "abs") rfl)
  · exact He.free_ok X G (c.fact 20 (f := .free "all") rfl)
  · exact He.free_ok X G (c.fact 21 (f := .free "bool") rfl)
  · exact He.free_ok X G (c.fact 22 (f := .free "dict") rfl)
  · exact He.free_ok X G (c.fact 23 (f := .free "enumerate") rfl)
  · exact He.free_ok X G (c.fact 24 (f := .free "int") rfl)
  · exact He.free_ok X G (c.fact 25 (f := .free "isinstance") rfl)
  · exact He.free_ok X G (c.fact 26 (f := .free "len") rfl)
  · exact He.free_ok X G (c.fact 27 (f := .free "list") rfl)
  · exact He.free_ok X G (c.fact 28 (f := .free "max") rfl)
  · exact He.free_ok X G (c.fact 29 (f := .free "min") rfl)
  · exact He.free_ok X G (c.fact 30 (f := .free "range") rfl)
  · exact He.free_ok X G (c.fact 31 (f := .free "repr") rfl)
  · exact He.free_ok X G (c.fact 32 (f := .free "sorted") rfl)
  · exact He.free_ok X G (c.fact 33 (f := .free "str") rfl)
  · exact He.free_ok X G (c.fact 34 (f := .free "tuple") rfl)
  · exact He.free_ok X G (c.fact 35 (f := .free "zip") rfl)
theorem exm0 (c : He.SaysD fa fn K) : ∀ c1 C1, (lay K).cls c1 = some C1 → PySem.W.exmOne K (.ref C1) (.ref (He.ga K "InvalidNumber")) = some (sub c1 0) := by
  intro c1 C1 h
  match c1, h with
  | 0, h => cases h; exact He.exm_ok (c.fact 37 (f := .exm "InvalidNumber" "InvalidNumber" true) rfl)
  | n + 1, h => cases h
theorem exs_ok {Pi : Pr} (hs : Pi.sub = sub) (X : K.In h) (G : h.Ns mainGlobals mg) (c : EV.SaysX fa fn ex K) (k : Nat) : ∀ x n o, (x, n, o) ∈ exs → ExK Pi (lay K) P w K mg base k x n o := by
  intro x n o hx
  simp only [exs, List.mem_cons, List.not_mem_nil, or_false, Prod.mk.injEq] at hx
  rcases hx with ⟨rfl, rfl, rfl⟩
  · have g := He.glo_ok X G (c.both.1.fact 36 (f := .glo "InvalidNumber") rfl)
    obtain ⟨fd, F⟩ := c.both.1.def_ 16 (d := e0) rfl
    exact exk_field PySem.F.excBase_IndexError PySem.F.store_IndexError (by decide) (by simp [bm0]) rfl rfl g (by rw [hs]; exact exm0 c.both.1) (c.more 0 rfl) (xinit_ok (by decide) (by decide) F (fun s u v => L2.FunD.bindsA (ps := ["self", "value"]) F (fun _ _ _ _ _ _ us hl => match us, hl with | [_, _], _ => rfl) s [u, v] rfl) (by decide +kernel) (by decide +kernel) rfl rfl rfl) (by decide)
/-- a def of level k keeps its promise -/
abbrev Kept (P : Program) (w : World) (K : PySem.W.Frag) (mg : Str → Option Value) (base : Heap) (k : Nat) (x : Str) (Fx : Fn) (ps : List Str) : Prop := ∃ (fa : Addr) (fd : FuncData), mg x = some (.ref fa) ∧ PySem.W.keepIn K (.ref fa) = true ∧ L2.Binds K fd ps [] ∧ FnG P w K mg base (L2.CX P w) k fa fd ps (spF (lay K) Fx ps.length)
abbrev KeptK (P : Program) (w : World) (K : PySem.W.Frag) (mg : Str → Option Value) (base : Heap) (k : Nat) (x : Str) (Fx : Fn) (n : Nat) (ks ps : List Str) : Prop := ∃ (fa : Addr) (fd : FuncData), mg x = some (.ref fa) ∧ PySem.W.keepIn K (.ref fa) = true ∧ L2.KBn K fd ps n ks (fun us ws => us ++ ws) (fun vs zs => vs ++ zs) ∧ FnG P w K mg base (L2.CX P w) k fa fd ps (spF (lay K) Fx (n + ks.length))
theorem Kept.mono {k j : Nat} {x : Str} {Fx : Fn} {ps : List Str} (h : Kept P w K mg base k x Fx ps) (l : k ≤ j) : Kept P w K mg base j x Fx ps := by
  obtain ⟨fa, fd, h1, h2, h3, h4⟩ := h
  exact ⟨fa, fd, h1, h2, h3, h4.mono l⟩
theorem KeptK.mono {k j n : Nat} {x : Str} {Fx : Fn} {ks ps : List Str} (h : KeptK P w K mg base k x Fx n ks ps) (l : k ≤ j) : KeptK P w K mg base j x Fx n ks ps := by
  obtain ⟨fa, fd, h1, h2, h3, h4⟩ := h
  exact ⟨fa, fd, h1, h2, h3, h4.mono l⟩
theorem kp0 (X : K.In h) (G : h.Ns mainGlobals mg) (c : EV.SaysX fa fn ex K) : Kept P w K mg base 1 "_law_is_less" F0 ["one", "other"] := by
  obtain ⟨fd, F⟩ := c.both.1.def_ 0 (d := d0) rfl
  have g := He.glo_ok X G (c.both.1.fact 0 (f := .glo "_law_is_less") rfl)
  have b : L2.Binds K fd ["one", "other"] [] := FunD.bindsN F fun _ _ _ _ _ _ us hl => match us, hl with | [_, _], _ => rfl
  refine ⟨_, fd, g, F.kp, b, df_ok (k := 0) (Y := lay K) (P := P0) ⟨rfl, h_con X G c.both.1, h_blt X G c.both.1, exs_ok rfl X G c 0, ?_, ?_⟩ F sc0 rfl rfl ck0⟩
  · intro p hp
    cases hp
  · intro p hp
    cases hp
theorem kp1 (X : K.In h) (G : h.Ns mainGlobals mg) (c : EV.SaysX fa fn ex K) (k0 : Kept P w K mg base 1 "_law_is_less" F0 ["one", "other"]) : Kept P w K mg base 2 "_law_places" F1 ["words"] := by
  obtain ⟨fd, F⟩ := c.both.1.def_ 1 (d := d1) rfl
  have g := He.glo_ok X G (c.both.1.fact 1 (f := .glo "_law_places") rfl)
  have b : L2.Binds K fd ["words"] [] := FunD.bindsN F fun _ _ _ _ _ _ us hl => match us, hl with | [_], _ => rfl
  refine ⟨_, fd, g, F.kp, b, df_ok (k := 1) (Y := lay K) (P := P1) ⟨rfl, h_con X G c.both.1, h_blt X G c.both.1, exs_ok rfl X G c 1, ?_, ?_⟩ F sc1 rfl rfl ck1⟩
  · intro p hp
    simp only [fns1, List.mem_cons, List.not_mem_nil, or_false] at hp
    rcases hp with rfl
    · obtain ⟨fa, fd, h1, h2, h3, h4⟩ := k0.mono (j := 1) (by decide)
      exact ⟨fa, fd, _, h1, h2, h3, rfl, h4⟩
  · intro p hp
    cases hp
theorem kp2 (X : K.In h) (G : h.Ns mainGlobals mg) (c : EV.SaysX fa fn ex K) (k0 : Kept P w K mg base 1 "_law_is_less" F0 ["one", "other"]) (k1 : Kept P w K mg base 2 "_law_places" F1 ["words"]) : Kept P w K mg base 3 "_law_tuples" F2 ["words"] := by
  obtain ⟨fd, F⟩ := c.both.1.def_ 2 (d := d2) rfl
  have g := He.glo_ok X G (c.both.1.fact 2 (f := .glo "_law_tuples") rfl)
  have b : L2.Binds K fd ["words"] [] := FunD.bindsN F fun _ _ _ _ _ _ us hl => match us, hl with | [_], _ => rfl
  refine ⟨_, fd, g, F.kp, b, df_ok (k := 2) (Y := lay K) (P := P2) ⟨rfl, h_con X G c.both.1, h_blt X G c.both.1, exs_ok rfl X G c 2, ?_, ?_⟩ F sc2 rfl rfl ck2⟩
  · intro p hp
    simp only [fns2, List.mem_cons, List.not_mem_nil, or_false] at hp
    rcases hp with rfl | rfl
    · obtain ⟨fa, fd, h1, h2, h3, h4⟩ := k0.mono (j := 2) (by decide)
      exact ⟨fa, fd, _, h1, h2, h3, rfl, h4⟩
    · obtain ⟨fa, fd, h1, h2, h3, h4⟩ := k1.mono (j := 2) (by decide)
      exact ⟨fa, fd, _, h1, h2, h3, rfl, h4⟩
  · intro p hp
    cases hp
theorem kp3 (X : K.In h) (G : h.Ns mainGlobals mg) (c : EV.SaysX fa fn ex K) (k0 : Kept P w K mg base 1 "_law_is_less" F0 ["one", "other"]) (k1 : Kept P w K mg base 2 "_law_places" F1 ["words"]) (k2 : Kept P w K mg base 3 "_law_tuples" F2 ["words"]) : Kept P w K mg base 4 "_law_roll" F3 ["dice", "total"] := by
  obtain ⟨fd, F⟩ := c.both.1.def_ 3 (d := d3) rfl
  have g := He.glo_ok X G (c.both.1.fact 3 (f := .glo "_law_roll") rfl)
  have b : L2.Binds K fd ["dice", "total"] [] := FunD.bindsN F fun _ _ _ _ _ _ us hl => match us, hl with | [_, _], _ => rfl
  refine ⟨_, fd, g, F.kp, b, df_ok (k := 3) (Y := lay K) (P := P3) ⟨rfl, h_con X G c.both.1, h_blt X G c.both.1, exs_ok rfl X G c 3, ?_, ?_⟩ F sc3 rfl rfl ck3⟩
  · intro p hp
    simp only [fns3, List.mem_cons, List.not_mem_nil, or_false] at hp
    rcases hp with rfl | rfl | rfl
    · obtain ⟨fa, fd, h1, h2, h3, h4⟩ := k0.mono (j := 3) (by decide)
      exact ⟨fa, fd, _, h1, h2, h3, rfl, h4⟩
    · obtain ⟨fa, fd, h1, h2, h3, h4⟩ := k1.mono (j := 3) (by decide)
      exact ⟨fa, fd, _, h1, h2, h3, rfl, h4⟩
    · obtain ⟨fa, fd, h1, h2, h3, h4⟩ := k2.mono (j := 3) (by decide)
      exact ⟨fa, fd, _, h1, h2, h3, rfl, h4⟩
  · intro p hp
    cases hp
theorem kp4 (X : K.In h) (G : h.Ns mainGlobals mg) (c : EV.SaysX fa fn ex K) (k0 : Kept P w K mg base 1 "_law_is_less" F0 ["one", "other"]) (k1 : Kept P w K mg base 2 "_law_places" F1 ["words"]) (k2 : Kept P w K mg base 3 "_law_tuples" F2 ["words"]) (k3 : Kept P w K mg base 4 "_law_roll" F3 ["dice", "total"]) : Kept P w K mg base 5 "_law_pick" F4 ["dice", "items"] := by
  obtain ⟨fd, F⟩ := c.both.1.def_ 4 (d := d4) rfl
  have g := He.glo_ok X G (c.both.1.fact 4 (f := .glo "_law_pick") rfl)
  have b : L2.Binds K fd ["dice", "items"] [] := FunD.bindsN F fun _ _ _ _ _ _ us hl => match us, hl with | [_, _], _ => rfl
  refine ⟨_, fd, g, F.kp, b, df_ok (k := 4) (Y := lay K) (P := P4) ⟨rfl, h_con X G c.both.1, h_blt X G c.both.1, exs_ok rfl X G c 4, ?_, ?_⟩ F sc4 rfl rfl ck4⟩
  · intro p hp
    simp only [fns4, List.mem_cons, List.not_mem_nil, or_false] at hp
    rcases hp with rfl | rfl | rfl | rfl
    · obtain ⟨fa, fd, h1, h2, h3, h4⟩ := k0.mono (j := 4) (by decide)
      exact ⟨fa, fd, _, h1, h2, h3, rfl, h4⟩
    · obtain ⟨fa, fd, h1, h2, h3, h4⟩ := k1.mono (j := 4) (by decide)
      exact ⟨fa, fd, _, h1, h2, h3, rfl, h4⟩
    · obtain ⟨fa, fd, h1, h2, h3, h4⟩ := k2.mono (j := 4) (by decide)
      exact ⟨fa, fd, _, h1, h2, h3, rfl, h4⟩
    · obtain ⟨fa, fd, h1, h2, h3, h4⟩ := k3.mono (j := 4) (by decide)
      exact ⟨fa, fd, _, h1, h2, h3, rfl, h4⟩
  · intro p hp
    cases hp
theorem kp5 (X : K.In h) (G : h.Ns mainGlobals mg) (c : EV.SaysX fa fn ex K) (k0 : Kept P w K mg base 1 "_law_is_less" F0 ["one", "other"]) (k1 : Kept P w K mg base 2 "_law_places" F1 ["words"]) (k2 : Kept P w K mg base 3 "_law_tuples" F2 ["words"]) (k3 : Kept P w K mg base 4 "_law_roll" F3 ["dice", "total"]) (k4 : Kept P w K mg base 5 "_law_pick" F4 ["dice", "items"]) : Kept P w K mg base 6 "_law_word" F5 ["dice"] := by
  obtain ⟨fd, F⟩ := c.both.1.def_ 5 (d := d5) rfl
  have g := He.glo_ok X G (c.both.1.fact 5 (f := .glo "_law_word") rfl)
  have b : L2.Binds K fd ["dice"] [] := FunD.bindsN F fun _ _ _ _ _ _ us hl => match us, hl with | [_], _ => rfl
  refine ⟨_, fd, g, F.kp, b, df_ok (k := 5) (Y := lay K) (P := P5) ⟨rfl, h_con X G c.both.1, h_blt X G c.both.1, exs_ok rfl X G c 5, ?_, ?_⟩ F sc5 rfl rfl ck5⟩
  · intro p hp
    simp only [fns5, List.mem_cons, List.not_mem_nil, or_false] at hp
    rcases hp with rfl | rfl | rfl | rfl | rfl
    · obtain ⟨fa, fd, h1, h2, h3, h4⟩ := k0.mono (j := 5) (by decide)
      exact ⟨fa, fd, _, h1, h2, h3, rfl, h4⟩
    · obtain ⟨fa, fd, h1, h2, h3, h4⟩ := k1.mono (j := 5) (by decide)
      exact ⟨fa, fd, _, h1, h2, h3, rfl, h4⟩
    · obtain ⟨fa, fd, h1, h2, h3, h4⟩ := k2.mono (j := 5) (by decide)
      exact ⟨fa, fd, _, h1, h2, h3, rfl, h4⟩
    · obtain ⟨fa, fd, h1, h2, h3, h4⟩ := k3.mono (j := 5) (by decide)
      exact ⟨fa, fd, _, h1, h2, h3, rfl, h4⟩
    · obtain ⟨fa, fd, h1, h2, h3, h4⟩ := k4.mono (j := 5) (by decide)
      exact ⟨fa, fd, _, h1, h2, h3, rfl, h4⟩
  · intro p hp
    cases hp
theorem kp6 (X : K.In h) (G : h.Ns mainGlobals mg) (c : EV.SaysX fa fn ex K) (k0 : Kept P w K mg base 1 "_law_is_less" F0 ["one", "other"]) (k1 : Kept P w K mg base 2 "_law_places" F1 ["words"]) (k2 : Kept P w K mg base 3 "_law_tuples" F2 ["words"]) (k3 : Kept P w K mg base 4 "_law_roll" F3 ["dice", "total"]) (k4 : Kept P w K mg base 5 "_law_pick" F4 ["dice", "items"]) (k5 : Kept P w K mg base 6 "_law_word" F5 ["dice"]) : Kept P w K mg base 7 "is_integer" F6 ["value"] := by
  obtain ⟨fd, F⟩ := c.both.1.def_ 6 (d := d6) rfl
  have g := He.glo_ok X G (c.both.1.fact 6 (f := .glo "is_integer") rfl)
  have b : L2.Binds K fd ["value"] [] := FunD.bindsN F fun _ _ _ _ _ _ us hl => match us, hl with | [_], _ => rfl
  refine ⟨_, fd, g, F.kp, b, df_ok (k := 6) (Y := lay K) (P := P6) ⟨rfl, h_con X G c.both.1, h_blt X G c.both.1, exs_ok rfl X G c 6, ?_, ?_⟩ F sc6 rfl rfl ck6⟩
  · intro p hp
    simp only [fns6, List.mem_cons, List.not_mem_nil, or_false] at hp
    rcases hp with rfl | rfl | rfl | rfl | rfl | rfl
    · obtain ⟨fa, fd, h1, h2, h3, h4⟩ := k0.mono (j := 6) (by decide)
      exact ⟨fa, fd, _, h1, h2, h3, rfl, h4⟩
    · obtain ⟨fa, fd, h1, h2, h3, h4⟩ := k1.mono (j := 6) (by decide)
      exact ⟨fa, fd, _, h1, h2, h3, rfl, h4⟩
    · obtain ⟨fa, fd, h1, h2, h3, h4⟩ := k2.mono (j := 6) (by decide)
      exact ⟨fa, fd, _, h1, h2, h3, rfl, h4⟩
    · obtain ⟨fa, fd, h1, h2, h3, h4⟩ := k3.mono (j := 6) (by decide)
      exact ⟨fa, fd, _, h1, h2, h3, rfl, h4⟩
    · obtain ⟨fa, fd, h1, h2, h3, h4⟩ := k4.mono (j := 6) (by decide)
      exact ⟨fa, fd, _, h1, h2, h3, rfl, h4⟩
    · obtain ⟨fa, fd, h1, h2, h3, h4⟩ := k5.mono (j := 6) (by decide)
      exact ⟨fa, fd, _, h1, h2, h3, rfl, h4⟩
  · intro p hp
    cases hp
theorem kp7 (X : K.In h) (G : h.Ns mainGlobals mg) (c : EV.SaysX fa fn ex K) (k0 : Kept P w K mg base 1 "_law_is_less" F0 ["one", "other"]) (k1 : Kept P w K mg base 2 "_law_places" F1 ["words"]) (k2 : Kept P w K mg base 3 "_law_tuples" F2 ["words"]) (k3 : Kept P w K mg base 4 "_law_roll" F3 ["dice", "total"]) (k4 : Kept P w K mg base 5 "_law_pick" F4 ["dice", "items"]) (k5 : Kept P w K mg base 6 "_law_word" F5 ["dice"]) (k6 : Kept P w K mg base 7 "is_integer" F6 ["value"]) : Kept P w K mg base 8 "is_count" F7 ["value"] := by
  obtain ⟨fd, F⟩ := c.both.1.def_ 7 (d := d7) rfl
  have g := He.glo_ok X G (c.both.1.fact 7 (f := .glo "is_count") rfl)
  have b : L2.Binds K fd ["value"] [] := FunD.bindsN F fun _ _ _ _ _ _ us hl => match us, hl with | [_], _ => rfl
  refine ⟨_, fd, g, F.kp, b, df_ok (k := 7) (Y := lay K) (P := P7) ⟨rfl, h_con X G c.both.1, h_blt X G c.both.1, exs_ok rfl X G c 7, ?_, ?_⟩ F sc7 rfl rfl ck7⟩
  · intro p hp
    simp only [fns7, List.mem_cons, List.not_mem_nil, or_false] at hp
    rcases hp with rfl | rfl | rfl | rfl | rfl | rfl | rfl
    · obtain ⟨fa, fd, h1, h2, h3, h4⟩ := k0.mono (j := 7) (by decide)
      exact ⟨fa, fd, _, h1, h2, h3, rfl, h4⟩
    · obtain ⟨fa, fd, h1, h2, h3, h4⟩ := k1.mono (j := 7) (by decide)
      exact ⟨fa, fd, _, h1, h2, h3, rfl, h4⟩
    · obtain ⟨fa, fd, h1, h2, h3, h4⟩ := k2.mono (j := 7) (by decide)
      exact ⟨fa, fd, _, h1, h2, h3, rfl, h4⟩
    · obtain ⟨fa, fd, h1, h2, h3, h4⟩ := k3.mono (j := 7) (by decide)
      exact ⟨fa, fd, _, h1, h2, h3, rfl, h4⟩
    · obtain ⟨fa, fd, h1, h2, h3, h4⟩ := k4.mono (j := 7) (by decide)
      exact ⟨fa, fd, _, h1, h2, h3, rfl, h4⟩
    · obtain ⟨fa, fd, h1, h2, h3, h4⟩ := k5.mono (j := 7) (by decide)
      exact ⟨fa, fd, _, h1, h2, h3, rfl, h4⟩
    · obtain ⟨fa, fd, h1, h2, h3, h4⟩ := k6.mono (j := 7) (by decide)
      exact ⟨fa, fd, _, h1, h2, h3, rfl, h4⟩
  · intro p hp
    cases hp
theorem kp8 (X : K.In h) (G : h.Ns mainGlobals mg) (c : EV.SaysX fa fn ex K) (k0 : Kept P w K mg base 1 "_law_is_less" F0 ["one", "other"]) (k1 : Kept P w K mg base 2 "_law_places" F1 ["words"]) (k2 : Kept P w K mg base 3 "_law_tuples" F2 ["words"]) (k3 : Kept P w K mg base 4 "_law_roll" F3 ["dice", "total"]) (k4 : Kept P w K mg base 5 "_law_pick" F4 ["dice", "items"]) (k5 : Kept P w K mg base 6 "_law_word" F5 ["dice"]) (k6 : Kept P w K mg base 7 "is_integer" F6 ["value"]) (k7 : Kept P w K mg base 8 "is_count" F7 ["value"]) : Kept P w K mg base 9 "is_name" F8 ["value"] := by
  obtain ⟨fd, F⟩ := c.both.1.def_ 8 (d := d8) rfl
  have g := He.glo_ok X G (c.both.1.fact 8 (f := .glo "is_name") rfl)
  have b : L2.Binds K fd ["value"] [] := FunD.bindsN F fun _ _ _ _ _ _ us hl => match us, hl with | [_], _ => rfl
  refine ⟨_, fd, g, F.kp, b, df_ok (k := 8) (Y := lay K) (P := P8) ⟨rfl, h_con X G c.both.1, h_blt X G c.both.1, exs_ok rfl X G c 8, ?_, ?_⟩ F sc8 rfl rfl ck8⟩
  · intro p hp
    simp only [fns8, List.mem_cons, List.not_mem_nil, or_false] at hp
    rcases hp with rfl | rfl | rfl | rfl | rfl | rfl | rfl | rfl
    · obtain ⟨fa, fd, h1, h2, h3, h4⟩ := k0.mono (j := 8) (by decide)
      exact ⟨fa, fd, _, h1, h2, h3, rfl, h4⟩
    · obtain ⟨fa, fd, h1, h2, h3, h4⟩ := k1.mono (j := 8) (by decide)
      exact ⟨fa, fd, _, h1, h2, h3, rfl, h4⟩
    · obtain ⟨fa, fd, h1, h2, h3, h4⟩ := k2.mono (j := 8) (by decide)
      exact ⟨fa, fd, _, h1, h2, h3, rfl, h4⟩
    · obtain ⟨fa, fd, h1, h2, h3, h4⟩ := k3.mono (j := 8) (by decide)
      exact ⟨fa, fd, _, h1, h2, h3, rfl, h4⟩
    · obtain ⟨fa, fd, h1, h2, h3, h4⟩ := k4.mono (j := 8) (by decide)
      exact ⟨fa, fd, _, h1, h2, h3, rfl, h4⟩
    · obtain ⟨fa, fd, h1, h2, h3, h4⟩ := k5.mono (j := 8) (by decide)
      exact ⟨fa, fd, _, h1, h2, h3, rfl, h4⟩
    · obtain ⟨fa, fd, h1, h2, h3, h4⟩ := k6.mono (j := 8) (by decide)
      exact ⟨fa, fd, _, h1, h2, h3, rfl, h4⟩
    · obtain ⟨fa, fd, h1, h2, h3, h4⟩ := k7.mono (j := 8) (by decide)
      exact ⟨fa, fd, _, h1, h2, h3, rfl, h4⟩
  · intro p hp
    cases hp
theorem kp9 (X : K.In h) (G : h.Ns mainGlobals mg) (c : EV.SaysX fa fn ex K) (k0 : Kept P w K mg base 1 "_law_is_less" F0 ["one", "other"]) (k1 : Kept P w K mg base 2 "_law_places" F1 ["words"]) (k2 : Kept P w K mg base 3 "_law_tuples" F2 ["words"]) (k3 : Kept P w K mg base 4 "_law_roll" F3 ["dice", "total"]) (k4 : Kept P w K mg base 5 "_law_pick" F4 ["dice", "items"]) (k5 : Kept P w K mg base 6 "_law_word" F5 ["dice"]) (k6 : Kept P w K mg base 7 "is_integer" F6 ["value"]) (k7 : Kept P w K mg base 8 "is_count" F7 ["value"]) (k8 : Kept P w K mg base 9 "is_name" F8 ["value"]) : Kept P w K mg base 10 "are_sorted" F9 ["value"] := by
  obtain ⟨fd, F⟩ := c.both.1.def_ 9 (d := d9) rfl
  have g := He.glo_ok X G (c.both.1.fact 9 (f := .glo "are_sorted") rfl)
  have b : L2.Binds K fd ["value"] [] := FunD.bindsN F fun _ _ _ _ _ _ us hl => match us, hl with | [_], _ => rfl
  refine ⟨_, fd, g, F.kp, b, df_ok (k := 9) (Y := lay K) (P := P9) ⟨rfl, h_con X G c.both.1, h_blt X G c.both.1, exs_ok rfl X G c 9, ?_, ?_⟩ F sc9 rfl rfl ck9⟩
  · intro p hp
    simp only [fns9, List.mem_cons, List.not_mem_nil, or_false] at hp
    rcases hp with rfl | rfl | rfl | rfl | rfl | rfl | rfl | rfl | rfl
    · obtain ⟨fa, fd, h1, h2, h3, h4⟩ := k0.mono (j := 9) (by decide)
      exact ⟨fa, fd, _, h1, h2, h3, rfl, h4⟩
    · obtain ⟨fa, fd, h1, h2, h3, h4⟩ := k1.mono (j := 9) (by decide)
      exact ⟨fa, fd, _, h1, h2, h3, rfl, h4⟩
    · obtain ⟨fa, fd, h1, h2, h3, h4⟩ := k2.mono (j := 9) (by decide)
      exact ⟨fa, fd, _, h1, h2, h3, rfl, h4⟩
    · obtain ⟨fa, fd, h1, h2, h3, h4⟩ := k3.mono (j := 9) (by decide)
      exact ⟨fa, fd, _, h1, h2, h3, rfl, h4⟩
    · obtain ⟨fa, fd, h1, h2, h3, h4⟩ := k4.mono (j := 9) (by decide)
      exact ⟨fa, fd, _, h1, h2, h3, rfl, h4⟩
    · obtain ⟨fa, fd, h1, h2, h3, h4⟩ := k5.mono (j := 9) (by decide)
      exact ⟨fa, fd, _, h1, h2, h3, rfl, h4⟩
    · obtain ⟨fa, fd, h1, h2, h3, h4⟩ := k6.mono (j := 9) (by decide)
      exact ⟨fa, fd, _, h1, h2, h3, rfl, h4⟩
    · obtain ⟨fa, fd, h1, h2, h3, h4⟩ := k7.mono (j := 9) (by decide)
      exact ⟨fa, fd, _, h1, h2, h3, rfl, h4⟩
    · obtain ⟨fa, fd, h1, h2, h3, h4⟩ := k8.mono (j := 9) (by decide)
      exact ⟨fa, fd, _, h1, h2, h3, rfl, h4⟩
  · intro p hp
    cases hp
theorem kp10 (X : K.In h) (G : h.Ns mainGlobals mg) (c : EV.SaysX fa fn ex K) (k0 : Kept P w K mg base 1 "_law_is_less" F0 ["one", "other"]) (k1 : Kept P w K mg base 2 "_law_places" F1 ["words"]) (k2 : Kept P w K mg base 3 "_law_tuples" F2 ["words"]) (k3 : Kept P w K mg base 4 "_law_roll" F3 ["dice", "total"]) (k4 : Kept P w K mg base 5 "_law_pick" F4 ["dice", "items"]) (k5 : Kept P w K mg base 6 "_law_word" F5 ["dice"]) (k6 : Kept P w K mg base 7 "is_integer" F6 ["value"]) (k7 : Kept P w K mg base 8 "is_count" F7 ["value"]) (k8 : Kept P w K mg base 9 "is_name" F8 ["value"]) (k9 : Kept P w K mg base 10 "are_sorted" F9 ["value"]) : KeptK P w K mg base 11 "is_sorted" F10 1 ["most"] ["value", "most"] := by
  obtain ⟨fd, F⟩ := c.both.1.def_ 10 (d := d10) rfl
  have g := He.glo_ok X G (c.both.1.fact 10 (f := .glo "is_sorted") rfl)
  have b : L2.KBn K fd ["value", "most"] 1 ["most"] (fun us ws => us ++ ws) (fun vs zs => vs ++ zs) := kbn_of F fun _ _ _ _ _ _ us ws h1 h2 => match us, ws, h1, h2 with | [_], [_], _, _ => rfl
  refine ⟨_, fd, g, F.kp, b, df_ok (k := 10) (Y := lay K) (P := P10) ⟨rfl, h_con X G c.both.1, h_blt X G c.both.1, exs_ok rfl X G c 10, ?_, ?_⟩ F sc10 rfl rfl ck10⟩
  · intro p hp
    simp only [fns10, List.mem_cons, List.not_mem_nil, or_false] at hp
    rcases hp with rfl | rfl | rfl | rfl | rfl | rfl | rfl | rfl | rfl | rfl
    · obtain ⟨fa, fd, h1, h2, h3, h4⟩ := k0.mono (j := 10) (by decide)
      exact ⟨fa, fd, _, h1, h2, h3, rfl, h4⟩
    · obtain ⟨fa, fd, h1, h2, h3, h4⟩ := k1.mono (j := 10) (by decide)
      exact ⟨fa, fd, _, h1, h2, h3, rfl, h4⟩
    · obtain ⟨fa, fd, h1, h2, h3, h4⟩ := k2.mono (j := 10) (by decide)
      exact ⟨fa, fd, _, h1, h2, h3, rfl, h4⟩
    · obtain ⟨fa, fd, h1, h2, h3, h4⟩ := k3.mono (j := 10) (by decide)
      exact ⟨fa, fd, _, h1, h2, h3, rfl, h4⟩
    · obtain ⟨fa, fd, h1, h2, h3, h4⟩ := k4.mono (j := 10) (by decide)
      exact ⟨fa, fd, _, h1, h2, h3, rfl, h4⟩
    · obtain ⟨fa, fd, h1, h2, h3, h4⟩ := k5.mono (j := 10) (by decide)
      exact ⟨fa, fd, _, h1, h2, h3, rfl, h4⟩
    · obtain ⟨fa, fd, h1, h2, h3, h4⟩ := k6.mono (j := 10) (by decide)
      exact ⟨fa, fd, _, h1, h2, h3, rfl, h4⟩
    · obtain ⟨fa, fd, h1, h2, h3, h4⟩ := k7.mono (j := 10) (by decide)
      exact ⟨fa, fd, _, h1, h2, h3, rfl, h4⟩
    · obtain ⟨fa, fd, h1, h2, h3, h4⟩ := k8.mono (j := 10) (by decide)
      exact ⟨fa, fd, _, h1, h2, h3, rfl, h4⟩
    · obtain ⟨fa, fd, h1, h2, h3, h4⟩ := k9.mono (j := 10) (by decide)
      exact ⟨fa, fd, _, h1, h2, h3, rfl, h4⟩
  · intro p hp
    cases hp
theorem kp11 (X : K.In h) (G : h.Ns mainGlobals mg) (c : EV.SaysX fa fn ex K) (k0 : Kept P w K mg base 1 "_law_is_less" F0 ["one", "other"]) (k1 : Kept P w K mg base 2 "_law_places" F1 ["words"]) (k2 : Kept P w K mg base 3 "_law_tuples" F2 ["words"]) (k3 : Kept P w K mg base 4 "_law_roll" F3 ["dice", "total"]) (k4 : Kept P w K mg base 5 "_law_pick" F4 ["dice", "items"]) (k5 : Kept P w K mg base 6 "_law_word" F5 ["dice"]) (k6 : Kept P w K mg base 7 "is_integer" F6 ["value"]) (k7 : Kept P w K mg base 8 "is_count" F7 ["value"]) (k8 : Kept P w K mg base 9 "is_name" F8 ["value"]) (k9 : Kept P w K mg base 10 "are_sorted" F9 ["value"]) (k10 : KeptK P w K mg base 11 "is_sorted" F10 1 ["most"] ["value", "most"]) : Kept P w K mg base 12 "_law_told" F11 ["value", "limit"] := by
  obtain ⟨fd, F⟩ := c.both.1.def_ 11 (d := d11) rfl
  have g := He.glo_ok X G (c.both.1.fact 11 (f := .glo "_law_told") rfl)
  have b : L2.Binds K fd ["value", "limit"] [] := FunD.bindsN F fun _ _ _ _ _ _ us hl => match us, hl with | [_, _], _ => rfl
  refine ⟨_, fd, g, F.kp, b, df_ok (k := 11) (Y := lay K) (P := P11) ⟨rfl, h_con X G c.both.1, h_blt X G c.both.1, exs_ok rfl X G c 11, ?_, ?_⟩ F sc11 rfl rfl ck11⟩
  · intro p hp
    simp only [fns11, List.mem_cons, List.not_mem_nil, or_false] at hp
    rcases hp with rfl | rfl | rfl | rfl | rfl | rfl | rfl | rfl | rfl | rfl
    · obtain ⟨fa, fd, h1, h2, h3, h4⟩ := k0.mono (j := 11) (by decide)
      exact ⟨fa, fd, _, h1, h2, h3, rfl, h4⟩
    · obtain ⟨fa, fd, h1, h2, h3, h4⟩ := k1.mono (j := 11) (by decide)
      exact ⟨fa, fd, _, h1, h2, h3, rfl, h4⟩
    · obtain ⟨fa, fd, h1, h2, h3, h4⟩ := k2.mono (j := 11) (by decide)
      exact ⟨fa, fd, _, h1, h2, h3, rfl, h4⟩
    · obtain ⟨fa, fd, h1, h2, h3, h4⟩ := k3.mono (j := 11) (by decide)
      exact ⟨fa, fd, _, h1, h2, h3, rfl, h4⟩
    · obtain ⟨fa, fd, h1, h2, h3, h4⟩ := k4.mono (j := 11) (by decide)
      exact ⟨fa, fd, _, h1, h2, h3, rfl, h4⟩
    · obtain ⟨fa, fd, h1, h2, h3, h4⟩ := k5.mono (j := 11) (by decide)
      exact ⟨fa, fd, _, h1, h2, h3, rfl, h4⟩
    · obtain ⟨fa, fd, h1, h2, h3, h4⟩ := k6.mono (j := 11) (by decide)
      exact ⟨fa, fd, _, h1, h2, h3, rfl, h4⟩
    · obtain ⟨fa, fd, h1, h2, h3, h4⟩ := k7.mono (j := 11) (by decide)
      exact ⟨fa, fd, _, h1, h2, h3, rfl, h4⟩
    · obtain ⟨fa, fd, h1, h2, h3, h4⟩ := k8.mono (j := 11) (by decide)
      exact ⟨fa, fd, _, h1, h2, h3, rfl, h4⟩
    · obtain ⟨fa, fd, h1, h2, h3, h4⟩ := k9.mono (j := 11) (by decide)
      exact ⟨fa, fd, _, h1, h2, h3, rfl, h4⟩
  · intro p hp
    simp only [fks11, List.mem_cons, List.not_mem_nil, or_false] at hp
    rcases hp with rfl
    · obtain ⟨fa, fd, h1, h2, h3, h4⟩ := k10.mono (j := 11) (by decide)
      exact ⟨fa, fd, _, h1, h2, h3, h4⟩
theorem kp12 (X : K.In h) (G : h.Ns mainGlobals mg) (c : EV.SaysX fa fn ex K) (k0 : Kept P w K mg base 1 "_law_is_less" F0 ["one", "other"]) (k1 : Kept P w K mg base 2 "_law_places" F1 ["words"]) (k2 : Kept P w K mg base 3 "_law_tuples" F2 ["words"]) (k3 : Kept P w K mg base 4 "_law_roll" F3 ["dice", "total"]) (k4 : Kept P w K mg base 5 "_law_pick" F4 ["dice", "items"]) (k5 : Kept P w K mg base 6 "_law_word" F5 ["dice"]) (k6 : Kept P w K mg base 7 "is_integer" F6 ["value"]) (k7 : Kept P w K mg base 8 "is_count" F7 ["value"]) (k8 : Kept P w K mg base 9 "is_name" F8 ["value"]) (k9 : Kept P w K mg base 10 "are_sorted" F9 ["value"]) (k10 : KeptK P w K mg base 11 "is_sorted" F10 1 ["most"] ["value", "most"]) (k11 : Kept P w K mg base 12 "_law_told" F11 ["value", "limit"]) : Kept P w K mg base 13 "_law_is_name" F12 ["word"] := by
  obtain ⟨fd, F⟩ := c.both.1.def_ 12 (d := d12) rfl
  have g := He.glo_ok X G (c.both.1.fact 12 (f := .glo "_law_is_name") rfl)
  have b : L2.Binds K fd ["word"] [] := FunD.bindsN F fun _ _ _ _ _ _ us hl => match us, hl with | [_], _ => rfl
  refine ⟨_, fd, g, F.kp, b, df_ok (k := 12) (Y := lay K) (P := P12) ⟨rfl, h_con X G c.both.1, h_blt X G c.both.1, exs_ok rfl X G c 12, ?_, ?_⟩ F sc12 rfl rfl ck12⟩
  · intro p hp
    simp only [fns12, List.mem_cons, List.not_mem_nil, or_false] at hp
    rcases hp with rfl | rfl | rfl | rfl | rfl | rfl | rfl | rfl | rfl | rfl | rfl
    · obtain ⟨fa, fd, h1, h2, h3, h4⟩ := k0.mono (j := 12) (by decide)
      exact ⟨fa, fd, _, h1, h2, h3, rfl, h4⟩
    · obtain ⟨fa, fd, h1, h2, h3, h4⟩ := k1.mono (j := 12) (by decide)
      exact ⟨fa, fd, _, h1, h2, h3, rfl, h4⟩
    · obtain ⟨fa, fd, h1, h2, h3, h4⟩ := k2.mono (j := 12) (by decide)
      exact ⟨fa, fd, _, h1, h2, h3, rfl, h4⟩
    · obtain ⟨fa, fd, h1, h2, h3, h4⟩ := k3.mono (j := 12) (by decide)
      exact ⟨fa, fd, _, h1, h2, h3, rfl, h4⟩
    · obtain ⟨fa, fd, h1, h2, h3, h4⟩ := k4.mono (j := 12) (by decide)
      exact ⟨fa, fd, _, h1, h2, h3, rfl, h4⟩
    · obtain ⟨fa, fd, h1, h2, h3, h4⟩ := k5.mono (j := 12) (by decide)
      exact ⟨fa, fd, _, h1, h2, h3, rfl, h4⟩
    · obtain ⟨fa, fd, h1, h2, h3, h4⟩ := k6.mono (j := 12) (by decide)
      exact ⟨fa, fd, _, h1, h2, h3, rfl, h4⟩
    · obtain ⟨fa, fd, h1, h2, h3, h4⟩ := k7.mono (j := 12) (by decide)
      exact ⟨fa, fd, _, h1, h2, h3, rfl, h4⟩
    · obtain ⟨fa, fd, h1, h2, h3, h4⟩ := k8.mono (j := 12) (by decide)
      exact ⟨fa, fd, _, h1, h2, h3, rfl, h4⟩
    · obtain ⟨fa, fd, h1, h2, h3, h4⟩ := k9.mono (j := 12) (by decide)
      exact ⟨fa, fd, _, h1, h2, h3, rfl, h4⟩
    · obtain ⟨fa, fd, h1, h2, h3, h4⟩ := k11.mono (j := 12) (by decide)
      exact ⟨fa, fd, _, h1, h2, h3, rfl, h4⟩
  · intro p hp
    simp only [fks12, List.mem_cons, List.not_mem_nil, or_false] at hp
    rcases hp with rfl
    · obtain ⟨fa, fd, h1, h2, h3, h4⟩ := k10.mono (j := 12) (by decide)
      exact ⟨fa, fd, _, h1, h2, h3, h4⟩
theorem kp13 (X : K.In h) (G : h.Ns mainGlobals mg) (c : EV.SaysX fa fn ex K) (k0 : Kept P w K mg base 1 "_law_is_less" F0 ["one", "other"]) (k1 : Kept P w K mg base 2 "_law_places" F1 ["words"]) (k2 : Kept P w K mg base 3 "_law_tuples" F2 ["words"]) (k3 : Kept P w K mg base 4 "_law_roll" F3 ["dice", "total"]) (k4 : Kept P w K mg base 5 "_law_pick" F4 ["dice", "items"]) (k5 : Kept P w K mg base 6 "_law_word" F5 ["dice"]) (k6 : Kept P w K mg base 7 "is_integer" F6 ["value"]) (k7 : Kept P w K mg base 8 "is_count" F7 ["value"]) (k8 : Kept P w K mg base 9 "is_name" F8 ["value"]) (k9 : Kept P w K mg base 10 "are_sorted" F9 ["value"]) (k10 : KeptK P w K mg base 11 "is_sorted" F10 1 ["most"] ["value", "most"]) (k11 : Kept P w K mg base 12 "_law_told" F11 ["value", "limit"]) (k12 : Kept P w K mg base 13 "_law_is_name" F12 ["word"]) : Kept P w K mg base 14 "_law_right" F13 ["dice"] := by
  obtain ⟨fd, F⟩ := c.both.1.def_ 13 (d := d13) rfl
  have g := He.glo_ok X G (c.both.1.fact 13 (f := .glo "_law_right") rfl)
  have b : L2.Binds K fd ["dice"] [] := FunD.bindsN F fun _ _ _ _ _ _ us hl => match us, hl with | [_], _ => rfl
  refine ⟨_, fd, g, F.kp, b, df_ok (k := 13) (Y := lay K) (P := P13) ⟨rfl, h_con X G c.both.1, h_blt X G c.both.1, exs_ok rfl X G c 13, ?_, ?_⟩ F sc13 rfl rfl ck13⟩
  · intro p hp
    simp only [fns13, List.mem_cons, List.not_mem_nil, or_false] at hp
    rcases hp with rfl | rfl | rfl | rfl | rfl | rfl | rfl | rfl | rfl | rfl | rfl | rfl
    · obtain ⟨fa, fd, h1, h2, h3, h4⟩ := k0.mono (j := 13) (by decide)
      exact ⟨fa, fd, _, h1, h2, h3, rfl, h4⟩
    · obtain ⟨fa, fd, h1, h2, h3, h4⟩ := k1.mono (j := 13) (by decide)
      exact ⟨fa, fd, _, h1, h2, h3, rfl, h4⟩
    · obtain ⟨fa, fd, h1, h2, h3, h4⟩ := k2.mono (j := 13) (by decide)
      exact ⟨fa, fd, _, h1, h2, h3, rfl, h4⟩
    · obtain ⟨fa, fd, h1, h2, h3, h4⟩ := k3.mono (j := 13) (by decide)
      exact ⟨fa, fd, _, h1, h2, h3, rfl, h4⟩
    · obtain ⟨fa, fd, h1, h2, h3, h4⟩ := k4.mono (j := 13) (by decide)
      exact ⟨fa, fd, _, h1, h2, h3, rfl, h4⟩
    · obtain ⟨fa, fd, h1, h2, h3, h4⟩ := k5.mono (j := 13) (by decide)
      exact ⟨fa, fd, _, h1, h2, h3, rfl, h4⟩
    · obtain ⟨fa, fd, h1, h2, h3, h4⟩ := k6.mono (j := 13) (by decide)
      exact ⟨fa, fd, _, h1, h2, h3, rfl, h4⟩
    · obtain ⟨fa, fd, h1, h2, h3, h4⟩ := k7.mono (j := 13) (by decide)
      exact ⟨fa, fd, _, h1, h2, h3, rfl, h4⟩
    · obtain ⟨fa, fd, h1, h2, h3, h4⟩ := k8.mono (j := 13) (by decide)
      exact ⟨fa, fd, _, h1, h2, h3, rfl, h4⟩
    · obtain ⟨fa, fd, h1, h2, h3, h4⟩ := k9.mono (j := 13) (by decide)
      exact ⟨fa, fd, _, h1, h2, h3, rfl, h4⟩
    · obtain ⟨fa, fd, h1, h2, h3, h4⟩ := k11.mono (j := 13) (by decide)
      exact ⟨fa, fd, _, h1, h2, h3, rfl, h4⟩
    · obtain ⟨fa, fd, h1, h2, h3, h4⟩ := k12.mono (j := 13) (by decide)
      exact ⟨fa, fd, _, h1, h2, h3, rfl, h4⟩
  · intro p hp
    simp only [fks13, List.mem_cons, List.not_mem_nil, or_false] at hp
    rcases hp with rfl
    · obtain ⟨fa, fd, h1, h2, h3, h4⟩ := k10.mono (j := 13) (by decide)
      exact ⟨fa, fd, _, h1, h2, h3, h4⟩
theorem kp14 (X : K.In h) (G : h.Ns mainGlobals mg) (c : EV.SaysX fa fn ex K) (k0 : Kept P w K mg base 1 "_law_is_less" F0 ["one", "other"]) (k1 : Kept P w K mg base 2 "_law_places" F1 ["words"]) (k2 : Kept P w K mg base 3 "_law_tuples" F2 ["words"]) (k3 : Kept P w K mg base 4 "_law_roll" F3 ["dice", "total"]) (k4 : Kept P w K mg base 5 "_law_pick" F4 ["dice", "items"]) (k5 : Kept P w K mg base 6 "_law_word" F5 ["dice"]) (k6 : Kept P w K mg base 7 "is_integer" F6 ["value"]) (k7 : Kept P w K mg base 8 "is_count" F7 ["value"]) (k8 : Kept P w K mg base 9 "is_name" F8 ["value"]) (k9 : Kept P w K mg base 10 "are_sorted" F9 ["value"]) (k10 : KeptK P w K mg base 11 "is_sorted" F10 1 ["most"] ["value", "most"]) (k11 : Kept P w K mg base 12 "_law_told" F11 ["value", "limit"]) (k12 : Kept P w K mg base 13 "_law_is_name" F12 ["word"]) (k13 : Kept P w K mg base 14 "_law_right" F13 ["dice"]) : Kept P w K mg base 15 "_law_dice" F14 ["script", "spot"] := by
  obtain ⟨fd, F⟩ := c.both.1.def_ 14 (d := d14) rfl
  have g := He.glo_ok X G (c.both.1.fact 14 (f := .glo "_law_dice") rfl)
  have b : L2.Binds K fd ["script", "spot"] [] := FunD.bindsN F fun _ _ _ _ _ _ us hl => match us, hl with | [_, _], _ => rfl
  refine ⟨_, fd, g, F.kp, b, df_ok (k := 14) (Y := lay K) (P := P14) ⟨rfl, h_con X G c.both.1, h_blt X G c.both.1, exs_ok rfl X G c 14, ?_, ?_⟩ F sc14 rfl rfl ck14⟩
  · intro p hp
    simp only [fns14, List.mem_cons, List.not_mem_nil, or_false] at hp
    rcases hp with rfl | rfl | rfl | rfl | rfl | rfl | rfl | rfl | rfl | rfl | rfl | rfl | rfl
    · obtain ⟨fa, fd, h1, h2, h3, h4⟩ := k0.mono (j := 14) (by decide)
      exact ⟨fa, fd, _, h1, h2, h3, rfl, h4⟩
    · obtain ⟨fa, fd, h1, h2, h3, h4⟩ := k1.mono (j := 14) (by decide)
      exact ⟨fa, fd, _, h1, h2, h3, rfl, h4⟩
    · obtain ⟨fa, fd, h1, h2, h3, h4⟩ := k2.mono (j := 14) (by decide)
      exact ⟨fa, fd, _, h1, h2, h3, rfl, h4⟩
    · obtain ⟨fa, fd, h1, h2, h3, h4⟩ := k3.mono (j := 14) (by decide)
      exact ⟨fa, fd, _, h1, h2, h3, rfl, h4⟩
    · obtain ⟨fa, fd, h1, h2, h3, h4⟩ := k4.mono (j := 14) (by decide)
      exact ⟨fa, fd, _, h1, h2, h3, rfl, h4⟩
    · obtain ⟨fa, fd, h1, h2, h3, h4⟩ := k5.mono (j := 14) (by decide)
      exact ⟨fa, fd, _, h1, h2, h3, rfl, h4⟩
    · obtain ⟨fa, fd, h1, h2, h3, h4⟩ := k6.mono (j := 14) (by decide)
      exact ⟨fa, fd, _, h1, h2, h3, rfl, h4⟩
    · obtain ⟨fa, fd, h1, h2, h3, h4⟩ := k7.mono (j := 14) (by decide)
      exact ⟨fa, fd, _, h1, h2, h3, rfl, h4⟩
    · obtain ⟨fa, fd, h1, h2, h3, h4⟩ := k8.mono (j := 14) (by decide)
      exact ⟨fa, fd, _, h1, h2, h3, rfl, h4⟩
    · obtain ⟨fa, fd, h1, h2, h3, h4⟩ := k9.mono (j := 14) (by decide)
      exact ⟨fa, fd, _, h1, h2, h3, rfl, h4⟩
    · obtain ⟨fa, fd, h1, h2, h3, h4⟩ := k11.mono (j := 14) (by decide)
      exact ⟨fa, fd, _, h1, h2, h3, rfl, h4⟩
    · obtain ⟨fa, fd, h1, h2, h3, h4⟩ := k12.mono (j := 14) (by decide)
      exact ⟨fa, fd, _, h1, h2, h3, rfl, h4⟩
    · obtain ⟨fa, fd, h1, h2, h3, h4⟩ := k13.mono (j := 14) (by decide)
      exact ⟨fa, fd, _, h1, h2, h3, rfl, h4⟩
  · intro p hp
    simp only [fks14, List.mem_cons, List.not_mem_nil, or_false] at hp
    rcases hp with rfl
    · obtain ⟨fa, fd, h1, h2, h3, h4⟩ := k10.mono (j := 14) (by decide)
      exact ⟨fa, fd, _, h1, h2, h3, h4⟩
theorem lawAt (X : K.In h) (G : h.Ns mainGlobals mg) (c : EV.SaysX fa fn ex K) {f : Addr} {fd : FuncData} (F : FunD K d15.name d15.qual d15.params d15.body d15.scope (d15.dvs K) (d15.kws K) f fd) : FnG P w K mg base (L2.CX P w) 16 f fd ["script"] (spF (lay K) F15 1) := by
  have k0 := kp0 (P := P) (w := w) (base := base) X G c
  have k1 := kp1 (P := P) (w := w) (base := base) X G c k0
  have k2 := kp2 (P := P) (w := w) (base := base) X G c k0 k1
  have k3 := kp3 (P := P) (w := w) (base := base) X G c k0 k1 k2
  have k4 := kp4 (P := P) (w := w) (base := base) X G c k0 k1 k2 k3
  have k5 := kp5 (P := P) (w := w) (base := base) X G c k0 k1 k2 k3 k4
  have k6 := kp6 (P := P) (w := w) (base := base) X G c k0 k1 k2 k3 k4 k5
  have k7 := kp7 (P := P) (w := w) (base := base) X G c k0 k1 k2 k3 k4 k5 k6
  have k8 := kp8 (P := P) (w := w) (base := base) X G c k0 k1 k2 k3 k4 k5 k6 k7
  have k9 := kp9 (P := P) (w := w) (base := base) X G c k0 k1 k2 k3 k4 k5 k6 k7 k8
  have k10 := kp10 (P := P) (w := w) (base := base) X G c k0 k1 k2 k3 k4 k5 k6 k7 k8 k9
  have k11 := kp11 (P := P) (w := w) (base := base) X G c k0 k1 k2 k3 k4 k5 k6 k7 k8 k9 k10
  have k12 := kp12 (P := P) (w := w) (base := base) X G c k0 k1 k2 k3 k4 k5 k6 k7 k8 k9 k10 k11
  have k13 := kp13 (P := P) (w := w) (base := base) X G c k0 k1 k2 k3 k4 k5 k6 k7 k8 k9 k10 k11 k12
  have k14 := kp14 (P := P) (w := w) (base := base) X G c k0 k1 k2 k3 k4 k5 k6 k7 k8 k9 k10 k11 k12 k13
  refine df_ok (k := 15) (Y := lay K) (P := P15) ⟨rfl, h_con X G c.both.1, h_blt X G c.both.1, exs_ok rfl X G c 15, ?_, ?_⟩ F sc15 rfl rfl ck15
  · intro p hp
    simp only [fns15, List.mem_cons, List.not_mem_nil, or_false] at hp
    rcases hp with rfl | rfl | rfl | rfl | rfl | rfl | rfl | rfl | rfl | rfl | rfl | rfl | rfl | rfl
    · obtain ⟨fa, fd, h1, h2, h3, h4⟩ := k0.mono (j := 15) (by decide)
      exact ⟨fa, fd, _, h1, h2, h3, rfl, h4⟩
    · obtain ⟨fa, fd, h1, h2, h3, h4⟩ := k1.mono (j := 15) (by decide)
      exact ⟨fa, fd, _, h1, h2, h3, rfl, h4⟩
    · obtain ⟨fa, fd, h1, h2, h3, h4⟩ := k2.mono (j := 15) (by decide)
      exact ⟨fa, fd, _, h1, h2, h3, rfl, h4⟩
    · obtain ⟨fa, fd, h1, h2, h3, h4⟩ := k3.mono (j := 15) (by decide)
      exact ⟨fa, fd, _, h1, h2, h3, rfl, h4⟩
    · obtain ⟨fa, fd, h1, h2, h3, h4⟩ := k4.mono (j := 15) (by decide)
      exact ⟨fa, fd, _, h1, h2, h3, rfl, h4⟩
    · obtain ⟨fa, fd, h1, h2, h3, h4⟩ := k5.mono (j := 15) (by decide)
      exact ⟨fa, fd, _, h1, h2, h3, rfl, h4⟩
    · obtain ⟨fa, fd, h1, h2, h3, h4⟩ := k6.mono (j := 15) (by decide)
      exact ⟨fa, fd, _, h1, h2, h3, rfl, h4⟩
    · obtain ⟨fa, fd, h1, h2, h3, h4⟩ := k7.mono (j := 15) (by decide)
      exact ⟨fa, fd, _, h1, h2, h3, rfl, h4⟩
    · obtain ⟨fa, fd, h1, h2, h3, h4⟩ := k8.mono (j := 15) (by decide)
      exact ⟨fa, fd, _, h1, h2, h3, rfl, h4⟩
    · obtain ⟨fa, fd, h1, h2, h3, h4⟩ := k9.mono (j := 15) (by decide)
      exact ⟨fa, fd, _, h1, h2, h3, rfl, h4⟩
    · obtain ⟨fa, fd, h1, h2, h3, h4⟩ := k11.mono (j := 15) (by decide)
      exact ⟨fa, fd, _, h1, h2, h3, rfl, h4⟩
    · obtain ⟨fa, fd, h1, h2, h3, h4⟩ := k12.mono (j := 15) (by decide)
      exact ⟨fa, fd, _, h1, h2, h3, rfl, h4⟩
    · obtain ⟨fa, fd, h1, h2, h3, h4⟩ := k13.mono (j := 15) (by decide)
      exact ⟨fa, fd, _, h1, h2, h3, rfl, h4⟩
    · obtain ⟨fa, fd, h1, h2, h3, h4⟩ := k14.mono (j := 15) (by decide)
      exact ⟨fa, fd, _, h1, h2, h3, rfl, h4⟩
  · intro p hp
    simp only [fks15, List.mem_cons, List.not_mem_nil, or_false] at hp
    rcases hp with rfl
    · obtain ⟨fa, fd, h1, h2, h3, h4⟩ := k10.mono (j := 15) (by decide)
      exact ⟨fa, fd, _, h1, h2, h3, h4⟩
end
end K01

set_option maxRecDepth 100000
set_option maxHeartbeats 4000000
namespace EV
def DiceO (k : Nat) (o : Obj) : Prop := ∃ a b c : Int, o = .lst [.int a, .int b, .int c] ∧ 0 ≤ a ∧ 0 ≤ b ∧ b < 2 ^ 100 ∧ 0 ≤ c ∧ c ≤ (k : Int)
theorem DiceO.bare {k : Nat} {o : Obj} (h : DiceO k o) : o.bare = true := by
  obtain ⟨a, b, c, rfl, _⟩ := h; rfl
theorem DiceO.live {k : Nat} {o : Obj} (h : DiceO k o) : EV.live o = true := by
  obtain ⟨a, b, c, rfl, _⟩ := h; rfl
theorem DiceO.mono {k j : Nat} {o : Obj} (h : DiceO k o) (l : k ≤ j) : DiceO j o := by
  obtain ⟨a, b, c, rfl, h1, h2, h3, h4, h5⟩ := h
  exact ⟨a, b, c, rfl, h1, h2, h3, h4, by omega⟩
def rollB : List IS := [
  .ifs (.cmp .gt (.idx (.var 0) (.con (.int 0))) (.con (.int 0))) [
    .asg (.nm 4) (.bin .mod (.bn false .int [(.idx (.var 0) (.con (.int 0)))]) (.var 1)),
    .setI (.var 0) (.con (.int 0)) (.bin .fdiv (.idx (.var 0) (.con (.int 0))) (.var 1)),
    .ret (.var 4)] [],
  .setI (.var 0) (.con (.int 2)) (.bin .add (.idx (.var 0) (.con (.int 2))) (.con (.int 1))),
  .asg (.nm 2) (.bin .mod (.bn false .int [(.bin .add (.idx (.var 0) (.con (.int 1))) (.bin .mul (.con (.int 7919)) (.idx (.var 0) (.con (.int 2)))))]) (.con (.int 2305843009213693907))),
  .asg (.nm 3) (.bin .add (.bin .mul (.bin .mod (.bn false .int [(.bin .add (.bin .mul (.var 2) (.var 2)) (.bin .mul (.con (.int 61)) (.idx (.var 0) (.con (.int 2)))))]) (.con (.int 2305843009213693921))) (.con (.int 6700417))) (.var 2)),
  .ret (.bin .mod (.bn false .int [(.bin .fdiv (.var 3) (.con (.int 32768)))]) (.var 1))]
theorem roll_ok {P : Pr} {k : Nat} (hk : k < 2 ^ 60) {o : Obj} (ho : DiceO k o) {t : Int} (ht : 0 < t) (ht2 : t < 2 ^ 240) : ∃ r o', runF P 5 rollB [.loc 0, .d (.int t)] [o] = .ok (.d (.int r)) [o'] ∧ 0 ≤ r ∧ r < t ∧ DiceO (k + 1) o' := by
  obtain ⟨a, b, c, rfl, ha, hb, hb2, hc, hc2⟩ := ho
  by_cases h : 0 < a
  · refine ⟨a % t, .lst [.int (a / t), .int b, .int c], ?_, Int.emod_nonneg _ (by omega), Int.emod_lt_of_pos _ ht, _, _, _, rfl, Int.ediv_nonneg ha (by omega), hb, hb2, hc, by omega⟩
    have e1 : binO .mod (.int a) (.int t) = some (.int (a % t)) := mod_ok ht
    have e2 : binO .fdiv (.int a) (.int t) = some (.int (a / t)) := fdiv_ok ht (by omega)
    simp [rollB, stepOf, cstepOf, runF, startE, eB, eS, eE, eEs, eEo, eTs, eI, R.bind, R.st, peek, peeks, Obj.data, truthR, truthO, asg, asgs, lstAt, asD, asDs, asD1, fresh, alloc, outO, outB, getO, ixO, cmpO, eqI, eqS, bnO, add_i, sub_i, augO, List.getElem?_cons_zero, List.getElem?_cons_succ, List.set_cons_zero, List.set_cons_succ, List.length_cons, List.length_nil, List.map_cons, List.map_nil, List.cons_append, List.nil_append, List.replicate, Option.bind_some, Option.map_some, Option.bind_none, Option.map_none, Nat.reduceAdd, Nat.reduceSub, reduceIte, Bool.false_eq_true, if_false, if_true, List.getElem?_nil, List.replicate_succ, List.replicate_zero, e1, e2, h]
  · have e1 : binO .mul (.int 7919) (.int (c + 1)) = some (.int (7919 * (c + 1))) := mul_ok (by omega) (by omega)
    have e2 : ∀ x : Int, binO .mod (.int x) (.int 2305843009213693907) = some (.int (x % 2305843009213693907)) := fun x => mod_ok (by omega)
    generalize h1 : (b + 7919 * (c + 1)) % 2305843009213693907 = one
    have o1 : 0 ≤ one := by rw [← h1]; exact Int.emod_nonneg _ (by omega)
    have o2 : one < 2305843009213693907 := by rw [← h1]; exact Int.emod_lt_of_pos _ (by omega)
    have e3 : binO .mul (.int one) (.int one) = some (.int (one * one)) := mul_ok (by omega) (by omega)
    have e4 : binO .mul (.int 61) (.int (c + 1)) = some (.int (61 * (c + 1))) := mul_ok (by omega) (by omega)
    have e5 : ∀ x : Int, binO .mod (.int x) (.int 2305843009213693921) = some (.int (x % 2305843009213693921)) := fun x => mod_ok (by omega)
    generalize h2 : (one * one + 61 * (c + 1)) % 2305843009213693921 = tw
    have t1 : 0 ≤ tw := by rw [← h2]; exact Int.emod_nonneg _ (by omega)
    have t2 : tw < 2305843009213693921 := by rw [← h2]; exact Int.emod_lt_of_pos _ (by omega)
    have e6 : binO .mul (.int tw) (.int 6700417) = some (.int (tw * 6700417)) := mul_ok (by omega) (by omega)
    have e7 : ∀ x : Int, binO .fdiv (.int x) (.int 32768) = some (.int (x / 32768)) := fun x => fdiv_ok (by omega) (by omega)
    have e8 : ∀ x : Int, binO .mod (.int x) (.int t) = some (.int (x % t)) := fun x => mod_ok ht
    refine ⟨((tw * 6700417 + one) / 32768) % t, .lst [.int a, .int b, .int (c + 1)], ?_, Int.emod_nonneg _ (by omega), Int.emod_lt_of_pos _ ht, _, _, _, rfl, ha, hb, hb2, by omega, by omega⟩
    simp [rollB, stepOf, cstepOf, runF, startE, eB, eS, eE, eEs, eEo, eTs, eI, R.bind, R.st, peek, peeks, Obj.data, truthR, truthO, asg, asgs, lstAt, asD, asDs, asD1, fresh, alloc, outO, outB, getO, ixO, cmpO, eqI, eqS, bnO, add_i, sub_i, augO, List.getElem?_cons_zero, List.getElem?_cons_succ, List.set_cons_zero, List.set_cons_succ, List.length_cons, List.length_nil, List.map_cons, List.map_nil, List.cons_append, List.nil_append, List.replicate, Option.bind_some, Option.map_some, Option.bind_none, Option.map_none, Nat.reduceAdd, Nat.reduceSub, reduceIte, Bool.false_eq_true, if_false, if_true, List.getElem?_nil, List.replicate_succ, List.replicate_zero, e1, e2, e3, e4, e5, e6, e7, e8, h, h1, h2]
def pickB (kr : Nat) : List IS := [
  .ret (.idx (.var 1) (.call false kr [(.var 0), (.bn false .len [(.var 1)])]))]
section
variable {P : Pr} {Pr' : Pr} {kr k : Nat} {o : Obj}
theorem pickS_ok (hf : P.fn kr = runF Pr' 5 rollB) (hk : k < 2 ^ 60) (ho : DiceO k o) {s : T} (hs : s ≠ []) (hl : s.length ≤ 1000) : ∃ c o', runF P 2 (pickB kr) [.loc 0, .d (.str s)] [o] = .ok (.d (.str [c])) [o'] ∧ c ∈ s ∧ DiceO (k + 1) o' := by
  have hp : 0 < s.length := List.length_pos_iff.mpr hs
  obtain ⟨r, o', e, r0, r1, d⟩ := roll_ok (P := Pr') hk ho (t := s.length) (by omega) (by omega)
  have hr : r.toNat < s.length := by omega
  refine ⟨s[r.toNat], o', ?_, List.getElem_mem hr, d⟩
  have hc := callR_ld (m := false) (f := runF Pr' 5 rollB) (L := [o]) (n := 0) rfl ho.bare e d.bare
  have hz : s.length ≤ SZ := by show s.length ≤ 16777216; omega
  unfold pickB
  simp [stepOf, cstepOf, runF, startE, eB, eS, eE, eEs, eEo, eTs, eI, R.bind, R.st, peek, peeks, Obj.data, truthR, truthO, asg, asgs, lstAt, asD, asDs, asD1, fresh, alloc, outO, outB, getO, ixO, cmpO, eqI, eqS, bnO, add_i, sub_i, augO, List.getElem?_cons_zero, List.getElem?_cons_succ, List.set_cons_zero, List.set_cons_succ, List.length_cons, List.length_nil, List.map_cons, List.map_nil, List.cons_append, List.nil_append, List.replicate, Option.bind_some, Option.map_some, Option.bind_none, Option.map_none, Nat.reduceAdd, Nat.reduceSub, reduceIte, Bool.false_eq_true, if_false, if_true, List.getElem?_nil, List.replicate_succ, List.replicate_zero, hf, hc, hz, r0, r1, hr]
theorem pickL_ok (hf : P.fn kr = runF Pr' 5 rollB) (hk : k < 2 ^ 60) (ho : DiceO k o) {s : List D} (hs : s ≠ []) (hl : s.length ≤ 1000) : ∃ c o', runF P 2 (pickB kr) [.loc 0, .d (.lst s)] [o] = .ok (.d c) [o'] ∧ c ∈ s ∧ DiceO (k + 1) o' := by
  have hp : 0 < s.length := List.length_pos_iff.mpr hs
  obtain ⟨r, o', e, r0, r1, d⟩ := roll_ok (P := Pr') hk ho (t := s.length) (by omega) (by omega)
  have hr : r.toNat < s.length := by omega
  refine ⟨s[r.toNat], o', ?_, List.getElem_mem hr, d⟩
  have hc := callR_ld (m := false) (f := runF Pr' 5 rollB) (L := [o]) (n := 0) rfl ho.bare e d.bare
  unfold pickB
  simp [stepOf, cstepOf, runF, startE, eB, eS, eE, eEs, eEo, eTs, eI, R.bind, R.st, peek, peeks, Obj.data, truthR, truthO, asg, asgs, lstAt, asD, asDs, asD1, fresh, alloc, outO, outB, getO, ixO, cmpO, eqI, eqS, bnO, add_i, sub_i, augO, List.getElem?_cons_zero, List.getElem?_cons_succ, List.set_cons_zero, List.set_cons_succ, List.length_cons, List.length_nil, List.map_cons, List.map_nil, List.cons_append, List.nil_append, List.replicate, Option.bind_some, Option.map_some, Option.bind_none, Option.map_none, Nat.reduceAdd, Nat.reduceSub, reduceIte, Bool.false_eq_true, if_false, if_true, List.getElem?_nil, List.replicate_succ, List.replicate_zero, hf, hc, r0, r1, hr]
theorem pickT_ok (hf : P.fn kr = runF Pr' 5 rollB) (hk : k < 2 ^ 60) (ho : DiceO k o) {s : List D} (hs : s ≠ []) (hl : s.length ≤ 1000) : ∃ c o', runF P 2 (pickB kr) [.loc 0, .d (.tup s)] [o] = .ok (.d c) [o'] ∧ c ∈ s ∧ DiceO (k + 1) o' := by
  have hp : 0 < s.length := List.length_pos_iff.mpr hs
  obtain ⟨r, o', e, r0, r1, d⟩ := roll_ok (P := Pr') hk ho (t := s.length) (by omega) (by omega)
  have hr : r.toNat < s.length := by omega
  refine ⟨s[r.toNat], o', ?_, List.getElem_mem hr, d⟩
  have hc := callR_ld (m := false) (f := runF Pr' 5 rollB) (L := [o]) (n := 0) rfl ho.bare e d.bare
  unfold pickB
  simp [stepOf, cstepOf, runF, startE, eB, eS, eE, eEs, eEo, eTs, eI, R.bind, R.st, peek, peeks, Obj.data, truthR, truthO, asg, asgs, lstAt, asD, asDs, asD1, fresh, alloc, outO, outB, getO, ixO, cmpO, eqI, eqS, bnO, add_i, sub_i, augO, List.getElem?_cons_zero, List.getElem?_cons_succ, List.set_cons_zero, List.set_cons_succ, List.length_cons, List.length_nil, List.map_cons, List.map_nil, List.cons_append, List.nil_append, List.replicate, Option.bind_some, Option.map_some, Option.bind_none, Option.map_none, Nat.reduceAdd, Nat.reduceSub, reduceIte, Bool.false_eq_true, if_false, if_true, List.getElem?_nil, List.replicate_succ, List.replicate_zero, hf, hc, r0, r1, hr]
end
def diceB : List IS := [
  .asg (.nm 2) (.ite (.cmp .lt (.var 1) (.bn false .len [(.var 0)])) (.bn false .int [(.idx (.var 0) (.var 1))]) (.bin .add (.bin .mul (.con (.int 37)) (.var 1)) (.con (.int 5)))),
  .asg (.nm 3) (.bin .mod (.bn false .max [(.con (.int 0)), (.bin .sub (.bn false .abs [(.var 2)]) (.bin .pow (.con (.int 10)) (.con (.int 17))))]) (.bin .mul (.bin .pow (.con (.int 10)) (.con (.int 60))) (.bin .pow (.con (.int 10)) (.con (.int 60))))),
  .ret (.lst true [(.var 3), (.bin .add (.bin .add (.bin .add (.bin .mul (.bin .mod (.bn false .abs [(.var 2)]) (.con (.int 2147483629))) (.con (.int 31))) (.bin .mul (.con (.int 577)) (.var 1))) (.bin .mul (.con (.int 13)) (.bn false .int [(.cmp .lt (.var 2) (.con (.int 0)))]))) (.con (.int 3))), (.con (.int 0))])]
theorem dice_ok {P : Pr} (ns : List Int) {sp : Nat} (hs : sp < 1000) : ∃ o, runF P 4 diceB [.d (.scr ns), .d (.int sp)] [] = .ok (.loc 0) [o] ∧ DiceO 0 o := by
  have p17 : binO .pow (.int 10) (.int 17) = some (.int 100000000000000000) := rfl
  have p60 : binO .pow (.int 10) (.int 60) = some (.int 1000000000000000000000000000000000000000000000000000000000000) := rfl
  have m60 : binO .mul (.int 1000000000000000000000000000000000000000000000000000000000000) (.int 1000000000000000000000000000000000000000000000000000000000000) = some (.int 1000000000000000000000000000000000000000000000000000000000000000000000000000000000000000000000000000000000000000000000000) := mul_ok (by omega) (by omega)
  have e1 : binO .mul (.int 37) (.int sp) = some (.int (37 * sp)) := mul_ok (by omega) (by omega)
  have e2 : ∀ x : Int, binO .mod (.int x) (.int 1000000000000000000000000000000000000000000000000000000000000000000000000000000000000000000000000000000000000000000000000) = some (.int (x % 1000000000000000000000000000000000000000000000000000000000000000000000000000000000000000000000000000000000000000000000000)) := fun x => mod_ok (by omega)
  have e3 : ∀ x : Int, binO .mod (.int x) (.int 2147483629) = some (.int (x % 2147483629)) := fun x => mod_ok (by omega)
  have e4 : ∀ x : Int, binO .mul (.int (x % 2147483629)) (.int 31) = some (.int (x % 2147483629 * 31)) := fun x => by
    have h1 := Int.emod_nonneg x (show (2147483629 : Int) ≠ 0 by omega)
    have h2 := Int.emod_lt_of_pos x (show (0 : Int) < 2147483629 by omega)
    exact mul_ok (by omega) (by omega)
  have e5 : binO .mul (.int 577) (.int sp) = some (.int (577 * sp)) := mul_ok (by omega) (by omega)
  have e6 : ∀ x : Int, binO .mul (.int 13) (.int (if x < 0 then 1 else 0)) = some (.int (13 * (if x < 0 then 1 else 0))) := fun x => mul_ok (by omega) (by split <;> decide)
  have fin : ∀ cell : Int, DiceO 0 (.lst [.int ((if (100000000000000000 : Int) < cell.natAbs then (cell.natAbs - 100000000000000000 : Int) else 0) % 1000000000000000000000000000000000000000000000000000000000000000000000000000000000000000000000000000000000000000000000000), .int ((cell.natAbs : Int) % 2147483629 * 31 + 577 * sp + 13 * (if cell < 0 then 1 else 0) + 3), .int 0]) := fun cell => by
    have h1 := Int.emod_nonneg (cell.natAbs : Int) (show (2147483629 : Int) ≠ 0 by omega)
    have h2 := Int.emod_lt_of_pos (cell.natAbs : Int) (show (0 : Int) < 2147483629 by omega)
    refine ⟨_, _, _, rfl, Int.emod_nonneg _ (by omega), ?_, ?_, by omega, by omega⟩ <;> split <;> omega
  by_cases h : sp < ns.length
  · refine ⟨_, ?_, fin ns[sp]⟩
    simp [diceB, stepOf, cstepOf, runF, startE, eB, eS, eE, eEs, eEo, eTs, eI, R.bind, R.st, peek, peeks, Obj.data, truthR, truthO, asg, asgs, lstAt, asD, asDs, asD1, fresh, alloc, outO, outB, getO, ixO, cmpO, eqI, eqS, bnO, add_i, sub_i, augO, List.getElem?_cons_zero, List.getElem?_cons_succ, List.set_cons_zero, List.set_cons_succ, List.length_cons, List.length_nil, List.map_cons, List.map_nil, List.cons_append, List.nil_append, List.replicate, Option.bind_some, Option.map_some, Option.bind_none, Option.map_none, Nat.reduceAdd, Nat.reduceSub, reduceIte, Bool.false_eq_true, if_false, if_true, List.getElem?_nil, List.replicate_succ, List.replicate_zero, p17, p60, m60, e1, e2, e3, e4, e5, e6, h]
  · refine ⟨_, ?_, fin (37 * sp + 5)⟩
    simp [diceB, stepOf, cstepOf, runF, startE, eB, eS, eE, eEs, eEo, eTs, eI, R.bind, R.st, peek, peeks, Obj.data, truthR, truthO, asg, asgs, lstAt, asD, asDs, asD1, fresh, alloc, outO, outB, getO, ixO, cmpO, eqI, eqS, bnO, add_i, sub_i, augO, List.getElem?_cons_zero, List.getElem?_cons_succ, List.set_cons_zero, List.set_cons_succ, List.length_cons, List.length_nil, List.map_cons, List.map_nil, List.cons_append, List.nil_append, List.replicate, Option.bind_some, Option.map_some, Option.bind_none, Option.map_none, Nat.reduceAdd, Nat.reduceSub, reduceIte, Bool.false_eq_true, if_false, if_true, List.getElem?_nil, List.replicate_succ, List.replicate_zero, p17, p60, m60, e1, e2, e3, e4, e5, e6, h]
section
variable {P : Pr} {k : Nat} {o : Obj} {L : List Obj} {n : Nat}
theorem roll_call {Pa : Pr} {kr : Nat} (hf : P.fn kr = runF Pa 5 rollB) (hk : k < 2 ^ 60) (hn : L[n]? = some o) (ho : DiceO k o) {t : Int} (ht : 0 < t) (ht2 : t < 2 ^ 240) : ∃ r o', callR false (P.fn kr) [.loc n, .d (.int t)] L = .ok (.d (.int r)) (L.set n o') ∧ 0 ≤ r ∧ r < t ∧ DiceO (k + 1) o' := by
  obtain ⟨r, o', e, h0, h1, d⟩ := roll_ok (P := Pa) hk ho ht ht2
  rw [hf]
  exact ⟨r, o', callR_ld hn ho.bare e d.bare, h0, h1, d⟩
theorem pickS_call {Pa Pb : Pr} {kp kr : Nat} (hp : P.fn kp = runF Pa 2 (pickB kr)) (hf : Pa.fn kr = runF Pb 5 rollB) (hk : k < 2 ^ 60) (hn : L[n]? = some o) (ho : DiceO k o) {s : T} (hs : s ≠ []) (hl : s.length ≤ 1000) : ∃ c o', callR false (P.fn kp) [.loc n, .d (.str s)] L = .ok (.d (.str [c])) (L.set n o') ∧ c ∈ s ∧ DiceO (k + 1) o' := by
  obtain ⟨c, o', e, h0, d⟩ := pickS_ok (P := Pa) hf hk ho hs hl
  rw [hp]
  exact ⟨c, o', callR_ld hn ho.bare e d.bare, h0, d⟩
theorem pickL_call {Pa Pb : Pr} {kp kr : Nat} (hp : P.fn kp = runF Pa 2 (pickB kr)) (hf : Pa.fn kr = runF Pb 5 rollB) (hk : k < 2 ^ 60) (hn : L[n]? = some o) (ho : DiceO k o) {s : List D} (hs : s ≠ []) (hl : s.length ≤ 1000) : ∃ c o', callR false (P.fn kp) [.loc n, .d (.lst s)] L = .ok (.d c) (L.set n o') ∧ c ∈ s ∧ DiceO (k + 1) o' := by
  obtain ⟨c, o', e, h0, d⟩ := pickL_ok (P := Pa) hf hk ho hs hl
  rw [hp]
  exact ⟨c, o', callR_ld hn ho.bare e d.bare, h0, d⟩
theorem pickT_call {Pa Pb : Pr} {kp kr : Nat} (hp : P.fn kp = runF Pa 2 (pickB kr)) (hf : Pa.fn kr = runF Pb 5 rollB) (hk : k < 2 ^ 60) (hn : L[n]? = some o) (ho : DiceO k o) {s : List D} (hs : s ≠ []) (hl : s.length ≤ 1000) : ∃ c o', callR false (P.fn kp) [.loc n, .d (.tup s)] L = .ok (.d c) (L.set n o') ∧ c ∈ s ∧ DiceO (k + 1) o' := by
  obtain ⟨c, o', e, h0, d⟩ := pickT_ok (P := Pa) hf hk ho hs hl
  rw [hp]
  exact ⟨c, o', callR_ld hn ho.bare e d.bare, h0, d⟩
end
def abc : T := [97, 98, 99, 100, 101, 102, 103, 104, 105, 106, 107, 108, 109, 110, 111, 112, 113, 114, 115, 116, 117, 118, 119, 120, 121, 122]
def isName (s : T) : Bool := decide (1 ≤ s.length) && decide (s.length ≤ 8) && s.all fun c => decide (c ∈ abc)
def nameB : List IS := [
  .ifs (.or (.not (.bn false (.isin 0) [(.var 0)])) (.not (.chain .le .le (.con (.int 1)) (.bn false .len [(.var 0)]) (.con (.int 8))))) [
    .ret (.con (.bl false))] [],
  .ret (.bn false .all [(.comp false [1] (.nm 1) (.val (.var 0)) [] (.cmp .in_ (.var 1) (.con (.str abc))))])]
theorem name_non {P : Pr} {d : D} {u : Nat} (h : tyOf d = some u) (hu : u ≠ 0) : runF P 2 nameB [.d d] [] = .ok (.d (.bl false)) [] := by
  have h1 : isO 0 d = some false := by
    unfold isO
    rw [h, Option.map_some]
    have : (u == 0) = false := beq_eq_false_iff_ne.mpr hu
    rw [this]
    simp
  simp [nameB, stepOf, cstepOf, runF, startE, eB, eS, eE, eEs, eEo, eTs, eI, R.bind, R.st, peek, peeks, Obj.data, truthR, truthO, asg, asgs, lstAt, asD, asDs, asD1, fresh, alloc, outO, outB, getO, ixO, cmpO, eqI, eqS, bnO, add_i, sub_i, augO, List.getElem?_cons_zero, List.getElem?_cons_succ, List.set_cons_zero, List.set_cons_succ, List.length_cons, List.length_nil, List.map_cons, List.map_nil, List.cons_append, List.nil_append, List.replicate, Option.bind_some, Option.map_some, Option.bind_none, Option.map_none, Nat.reduceAdd, Nat.reduceSub, reduceIte, Bool.false_eq_true, if_false, if_true, List.getElem?_nil, List.replicate_succ, List.replicate_zero, h1]
theorem name_str {P : Pr} {s : T} (hs : s.length ≤ 16777216) : runF P 2 nameB [.d (.str s)] [] = .ok (.d (.bl (isName s))) [] := by
  have hz : s.length ≤ SZ := hs
  have h1 : isO 0 (.str s) = some true := rfl
  have q1 : eI P (.val (.var 0)) [some (.d (.str s)), none] [] = .ok (s.map fun c => D.str [c]) [] := by
    simp only [stepOf, cstepOf, runF, startE, eB, eS, eE, eEs, eEo, eTs, eI, R.bind, R.st, peek, peeks, Obj.data, truthR, truthO, asg, asgs, lstAt, asD, asDs, asD1, fresh, alloc, outO, outB, getO, ixO, cmpO, eqI, eqS, bnO, add_i, sub_i, augO, List.getElem?_cons_zero, List.getElem?_cons_succ, List.set_cons_zero, List.set_cons_succ, List.length_cons, List.length_nil, List.map_cons, List.map_nil, List.cons_append, List.nil_append, List.replicate, Option.bind_some, Option.map_some, Option.bind_none, Option.map_none, Nat.reduceAdd, Nat.reduceSub, reduceIte, Bool.false_eq_true, if_false, if_true, List.getElem?_nil, List.replicate_succ, List.replicate_zero, itemsO]
  have q2 := comp_ok (P := P) (own := [1]) (tg := .nm 1) (ifs := []) (elt := .cmp .in_ (.var 1) (.con (.str abc))) (rs := s.map fun c => D.bl (decide (c ∈ abc))) q1 (by rw [List.length_map]; exact hz) (compLoop_map (fun c hc => by
    simp [stepOf, cstepOf, runF, startE, eB, eS, eE, eEs, eEo, eTs, eI, R.bind, R.st, peek, peeks, Obj.data, truthR, truthO, asg, asgs, lstAt, asD, asDs, asD1, fresh, alloc, outO, outB, getO, ixO, cmpO, eqI, eqS, bnO, add_i, sub_i, augO, List.getElem?_cons_zero, List.getElem?_cons_succ, List.set_cons_zero, List.set_cons_succ, List.length_cons, List.length_nil, List.map_cons, List.map_nil, List.cons_append, List.nil_append, List.replicate, Option.bind_some, Option.map_some, Option.bind_none, Option.map_none, Nat.reduceAdd, Nat.reduceSub, reduceIte, Bool.false_eq_true, if_false, if_true, List.getElem?_nil, List.replicate_succ, List.replicate_zero, wipeE, inO]))
  by_cases ha : 1 ≤ s.length
  · by_cases hb : s.length ≤ 8
    · have hS : startE 2 [W.d (D.str s)] = [some (.d (.str s)), none] := rfl
      have q3 : eS P (.ifs (.or (.not (.bn false (.isin 0) [(.var 0)])) (.not (.chain .le .le (.con (.int 1)) (.bn false .len [(.var 0)]) (.con (.int 8))))) [
    .ret (.con (.bl false))] []) [some (.d (.str s)), none] [] = .ok .nx [some (.d (.str s)), none] [] := by
        have e1 : decide ((1 : Int) ≤ (s.length : Int)) = true := decide_eq_true (by omega)
        have e2 : decide ((s.length : Int) ≤ 8) = true := decide_eq_true (by omega)
        simp [stepOf, cstepOf, runF, startE, eB, eS, eE, eEs, eEo, eTs, eI, R.bind, R.st, peek, peeks, Obj.data, truthR, truthO, asg, asgs, lstAt, asD, asDs, asD1, fresh, alloc, outO, outB, getO, ixO, cmpO, eqI, eqS, bnO, add_i, sub_i, augO, List.getElem?_cons_zero, List.getElem?_cons_succ, List.set_cons_zero, List.set_cons_succ, List.length_cons, List.length_nil, List.map_cons, List.map_nil, List.cons_append, List.nil_append, List.replicate, Option.bind_some, Option.map_some, Option.bind_none, Option.map_none, Nat.reduceAdd, Nat.reduceSub, reduceIte, Bool.false_eq_true, if_false, if_true, List.getElem?_nil, List.replicate_succ, List.replicate_zero, h1, hz, e1, e2, ha, hb]
      refine runF_ok (ρ' := [some (.d (.str s)), none]) ?_
      unfold nameB
      rw [hS, eB_cons q3]
      refine eB_last (ret_ok ?_)
      rw [eE, eEs, q2]
      simp only [stepOf, cstepOf, runF, startE, eB, eS, eE, eEs, eEo, eTs, eI, R.bind, R.st, peek, peeks, Obj.data, truthR, truthO, asg, asgs, lstAt, asD, asDs, asD1, fresh, alloc, outO, outB, getO, ixO, cmpO, eqI, eqS, bnO, add_i, sub_i, augO, List.getElem?_cons_zero, List.getElem?_cons_succ, List.set_cons_zero, List.set_cons_succ, List.length_cons, List.length_nil, List.map_cons, List.map_nil, List.cons_append, List.nil_append, List.replicate, Option.bind_some, Option.map_some, Option.bind_none, Option.map_none, Nat.reduceAdd, Nat.reduceSub, reduceIte, Bool.false_eq_true, if_false, if_true, List.getElem?_nil, List.replicate_succ, List.replicate_zero, bools_map]
      unfold isName
      rw [decide_eq_true ha, decide_eq_true hb]
      simp [Function.comp_def]
    · have e2 : decide ((s.length : Int) ≤ 8) = false := decide_eq_false (by omega)
      have e1 : decide ((1 : Int) ≤ (s.length : Int)) = true := decide_eq_true (by omega)
      unfold isName
      rw [decide_eq_false hb]
      simp [nameB, stepOf, cstepOf, runF, startE, eB, eS, eE, eEs, eEo, eTs, eI, R.bind, R.st, peek, peeks, Obj.data, truthR, truthO, asg, asgs, lstAt, asD, asDs, asD1, fresh, alloc, outO, outB, getO, ixO, cmpO, eqI, eqS, bnO, add_i, sub_i, augO, List.getElem?_cons_zero, List.getElem?_cons_succ, List.set_cons_zero, List.set_cons_succ, List.length_cons, List.length_nil, List.map_cons, List.map_nil, List.cons_append, List.nil_append, List.replicate, Option.bind_some, Option.map_some, Option.bind_none, Option.map_none, Nat.reduceAdd, Nat.reduceSub, reduceIte, Bool.false_eq_true, if_false, if_true, List.getElem?_nil, List.replicate_succ, List.replicate_zero, h1, hz, e1, e2, ha, hb]
  · have e1 : decide ((1 : Int) ≤ (s.length : Int)) = false := decide_eq_false (by omega)
    unfold isName
    rw [decide_eq_false ha]
    simp [nameB, stepOf, cstepOf, runF, startE, eB, eS, eE, eEs, eEo, eTs, eI, R.bind, R.st, peek, peeks, Obj.data, truthR, truthO, asg, asgs, lstAt, asD, asDs, asD1, fresh, alloc, outO, outB, getO, ixO, cmpO, eqI, eqS, bnO, add_i, sub_i, augO, List.getElem?_cons_zero, List.getElem?_cons_succ, List.set_cons_zero, List.set_cons_succ, List.length_cons, List.length_nil, List.map_cons, List.map_nil, List.cons_append, List.nil_append, List.replicate, Option.bind_some, Option.map_some, Option.bind_none, Option.map_none, Nat.reduceAdd, Nat.reduceSub, reduceIte, Bool.false_eq_true, if_false, if_true, List.getElem?_nil, List.replicate_succ, List.replicate_zero, h1, hz, e1, ha]
def nameD : D → Bool
  | .str s => isName s
  | _ => false
/-- data that may be asked for -/
def okD : D → Bool
  | .str s => decide (s.length ≤ 16777216)
  | d => (tyOf d).isSome
theorem name_ok {P : Pr} {d : D} (h : okD d = true) : runF P 2 nameB [.d d] [] = .ok (.d (.bl (nameD d))) [] := by
  cases d with
  | str s => exact name_str (by simpa [okD] using h)
  | non => exact name_non (u := 6) rfl (by decide)
  | bl b => exact name_non (u := 2) rfl (by decide)
  | int i => exact name_non (u := 1) rfl (by decide)
  | tup xs => exact name_non (u := 3) rfl (by decide)
  | lst xs => exact name_non (u := 4) rfl (by decide)
  | dct xs => exact name_non (u := 5) rfl (by decide)
  | _ => simp [okD, tyOf] at h
end EV

set_option maxRecDepth 100000
set_option maxHeartbeats 4000000
namespace EV
abbrev LIM : Int := 1000000000000000000000000000000000000000000000000000000000000
def integerB : List IS := [
  .ret (.and (.bn false (.isin 1) [(.var 0)]) (.and (.not (.bn false (.isin 2) [(.var 0)])) (.chain .lt .lt (.neg (.con (.int LIM))) (.var 0) (.con (.int LIM)))))]
def intD : D → Bool
  | .int i => decide (-LIM < i) && decide (i < LIM)
  | _ => false
theorem integer_ok {P : Pr} {d : D} (h : (tyOf d).isSome = true) : runF P 1 integerB [.d d] [] = .ok (.d (.bl (intD d))) [] := by
  cases d with
  | int i =>
    have h1 : isO 1 (.int i) = some true := rfl
    have h2 : isO 2 (.int i) = some false := rfl
    by_cases a : -LIM < i
    · simp [integerB, stepOf, cstepOf, runF, startE, eB, eS, eE, eEs, eEo, eTs, eI, R.bind, R.st, peek, peeks, Obj.data, truthR, truthO, asg, asgs, lstAt, asD, asDs, asD1, fresh, alloc, outO, outB, getO, ixO, cmpO, eqI, eqS, bnO, add_i, sub_i, augO, List.getElem?_cons_zero, List.getElem?_cons_succ, List.set_cons_zero, List.set_cons_succ, List.length_cons, List.length_nil, List.map_cons, List.map_nil, List.cons_append, List.nil_append, List.replicate, Option.bind_some, Option.map_some, Option.bind_none, Option.map_none, Nat.reduceAdd, Nat.reduceSub, reduceIte, Bool.false_eq_true, if_false, if_true, List.getElem?_nil, List.replicate_succ, List.replicate_zero, h1, h2, a, intD]
    · simp [integerB, stepOf, cstepOf, runF, startE, eB, eS, eE, eEs, eEo, eTs, eI, R.bind, R.st, peek, peeks, Obj.data, truthR, truthO, asg, asgs, lstAt, asD, asDs, asD1, fresh, alloc, outO, outB, getO, ixO, cmpO, eqI, eqS, bnO, add_i, sub_i, augO, List.getElem?_cons_zero, List.getElem?_cons_succ, List.set_cons_zero, List.set_cons_succ, List.length_cons, List.length_nil, List.map_cons, List.map_nil, List.cons_append, List.nil_append, List.replicate, Option.bind_some, Option.map_some, Option.bind_none, Option.map_none, Nat.reduceAdd, Nat.reduceSub, reduceIte, Bool.false_eq_true, if_false, if_true, List.getElem?_nil, List.replicate_succ, List.replicate_zero, h1, h2, a, intD]
  | bl b =>
    have h1 : isO 1 (.bl b) = some true := rfl
    have h2 : isO 2 (.bl b) = some true := rfl
    simp [integerB, stepOf, cstepOf, runF, startE, eB, eS, eE, eEs, eEo, eTs, eI, R.bind, R.st, peek, peeks, Obj.data, truthR, truthO, asg, asgs, lstAt, asD, asDs, asD1, fresh, alloc, outO, outB, getO, ixO, cmpO, eqI, eqS, bnO, add_i, sub_i, augO, List.getElem?_cons_zero, List.getElem?_cons_succ, List.set_cons_zero, List.set_cons_succ, List.length_cons, List.length_nil, List.map_cons, List.map_nil, List.cons_append, List.nil_append, List.replicate, Option.bind_some, Option.map_some, Option.bind_none, Option.map_none, Nat.reduceAdd, Nat.reduceSub, reduceIte, Bool.false_eq_true, if_false, if_true, List.getElem?_nil, List.replicate_succ, List.replicate_zero, h1, h2, intD]
  | str s => simp [integerB, stepOf, cstepOf, runF, startE, eB, eS, eE, eEs, eEo, eTs, eI, R.bind, R.st, peek, peeks, Obj.data, truthR, truthO, asg, asgs, lstAt, asD, asDs, asD1, fresh, alloc, outO, outB, getO, ixO, cmpO, eqI, eqS, bnO, add_i, sub_i, augO, List.getElem?_cons_zero, List.getElem?_cons_succ, List.set_cons_zero, List.set_cons_succ, List.length_cons, List.length_nil, List.map_cons, List.map_nil, List.cons_append, List.nil_append, List.replicate, Option.bind_some, Option.map_some, Option.bind_none, Option.map_none, Nat.reduceAdd, Nat.reduceSub, reduceIte, Bool.false_eq_true, if_false, if_true, List.getElem?_nil, List.replicate_succ, List.replicate_zero, show isO 1 (.str s) = some false from rfl, intD]
  | non => simp [integerB, stepOf, cstepOf, runF, startE, eB, eS, eE, eEs, eEo, eTs, eI, R.bind, R.st, peek, peeks, Obj.data, truthR, truthO, asg, asgs, lstAt, asD, asDs, asD1, fresh, alloc, outO, outB, getO, ixO, cmpO, eqI, eqS, bnO, add_i, sub_i, augO, List.getElem?_cons_zero, List.getElem?_cons_succ, List.set_cons_zero, List.set_cons_succ, List.length_cons, List.length_nil, List.map_cons, List.map_nil, List.cons_append, List.nil_append, List.replicate, Option.bind_some, Option.map_some, Option.bind_none, Option.map_none, Nat.reduceAdd, Nat.reduceSub, reduceIte, Bool.false_eq_true, if_false, if_true, List.getElem?_nil, List.replicate_succ, List.replicate_zero, show isO 1 .non = some false from rfl, intD]
  | tup s => simp [integerB, stepOf, cstepOf, runF, startE, eB, eS, eE, eEs, eEo, eTs, eI, R.bind, R.st, peek, peeks, Obj.data, truthR, truthO, asg, asgs, lstAt, asD, asDs, asD1, fresh, alloc, outO, outB, getO, ixO, cmpO, eqI, eqS, bnO, add_i, sub_i, augO, List.getElem?_cons_zero, List.getElem?_cons_succ, List.set_cons_zero, List.set_cons_succ, List.length_cons, List.length_nil, List.map_cons, List.map_nil, List.cons_append, List.nil_append, List.replicate, Option.bind_some, Option.map_some, Option.bind_none, Option.map_none, Nat.reduceAdd, Nat.reduceSub, reduceIte, Bool.false_eq_true, if_false, if_true, List.getElem?_nil, List.replicate_succ, List.replicate_zero, show isO 1 (.tup s) = some false from rfl, intD]
  | lst s => simp [integerB, stepOf, cstepOf, runF, startE, eB, eS, eE, eEs, eEo, eTs, eI, R.bind, R.st, peek, peeks, Obj.data, truthR, truthO, asg, asgs, lstAt, asD, asDs, asD1, fresh, alloc, outO, outB, getO, ixO, cmpO, eqI, eqS, bnO, add_i, sub_i, augO, List.getElem?_cons_zero, List.getElem?_cons_succ, List.set_cons_zero, List.set_cons_succ, List.length_cons, List.length_nil, List.map_cons, List.map_nil, List.cons_append, List.nil_append, List.replicate, Option.bind_some, Option.map_some, Option.bind_none, Option.map_none, Nat.reduceAdd, Nat.reduceSub, reduceIte, Bool.false_eq_true, if_false, if_true, List.getElem?_nil, List.replicate_succ, List.replicate_zero, show isO 1 (.lst s) = some false from rfl, intD]
  | dct s => simp [integerB, stepOf, cstepOf, runF, startE, eB, eS, eE, eEs, eEo, eTs, eI, R.bind, R.st, peek, peeks, Obj.data, truthR, truthO, asg, asgs, lstAt, asD, asDs, asD1, fresh, alloc, outO, outB, getO, ixO, cmpO, eqI, eqS, bnO, add_i, sub_i, augO, List.getElem?_cons_zero, List.getElem?_cons_succ, List.set_cons_zero, List.set_cons_succ, List.length_cons, List.length_nil, List.map_cons, List.map_nil, List.cons_append, List.nil_append, List.replicate, Option.bind_some, Option.map_some, Option.bind_none, Option.map_none, Nat.reduceAdd, Nat.reduceSub, reduceIte, Bool.false_eq_true, if_false, if_true, List.getElem?_nil, List.replicate_succ, List.replicate_zero, show isO 1 (.dct s) = some false from rfl, intD]
  | _ => simp [tyOf] at h
def countB (ki : Nat) : List IS := [.ret (.and (.call false ki [(.var 0)]) (.cmp .ge (.var 0) (.con (.int 0))))]
def countD : D → Bool
  | .int i => decide (-LIM < i) && decide (i < LIM) && decide (0 ≤ i)
  | _ => false
theorem countD_int (i : Int) : countD (.int i) = (decide (0 ≤ i) && decide (i < LIM)) := by
  unfold countD
  by_cases h : 0 ≤ i
  · have hl : (0 : Int) < LIM := by decide
    have : -LIM < i := by omega
    simp [h, this]
  · simp [h]
theorem counts_ok {P Pa : Pr} {ki : Nat} (hf : P.fn ki = runF Pa 1 integerB) {d : D} (h : (tyOf d).isSome = true) : runF P 1 (countB ki) [.d d] [] = .ok (.d (.bl (countD d))) [] := by
  have hc := callR_d (m := false) (L := []) (integer_ok (P := Pa) h)
  unfold countB
  cases d with
  | int i =>
    by_cases a : intD (.int i) = true
    · simp [stepOf, cstepOf, runF, startE, eB, eS, eE, eEs, eEo, eTs, eI, R.bind, R.st, peek, peeks, Obj.data, truthR, truthO, asg, asgs, lstAt, asD, asDs, asD1, fresh, alloc, outO, outB, getO, ixO, cmpO, eqI, eqS, bnO, add_i, sub_i, augO, List.getElem?_cons_zero, List.getElem?_cons_succ, List.set_cons_zero, List.set_cons_succ, List.length_cons, List.length_nil, List.map_cons, List.map_nil, List.cons_append, List.nil_append, List.replicate, Option.bind_some, Option.map_some, Option.bind_none, Option.map_none, Nat.reduceAdd, Nat.reduceSub, reduceIte, Bool.false_eq_true, if_false, if_true, List.getElem?_nil, List.replicate_succ, List.replicate_zero, hf, hc, a, countD]
      exact fun _ => by simpa [intD] using a
    · have a' : intD (.int i) = false := by simpa using a
      simp [stepOf, cstepOf, runF, startE, eB, eS, eE, eEs, eEo, eTs, eI, R.bind, R.st, peek, peeks, Obj.data, truthR, truthO, asg, asgs, lstAt, asD, asDs, asD1, fresh, alloc, outO, outB, getO, ixO, cmpO, eqI, eqS, bnO, add_i, sub_i, augO, List.getElem?_cons_zero, List.getElem?_cons_succ, List.set_cons_zero, List.set_cons_succ, List.length_cons, List.length_nil, List.map_cons, List.map_nil, List.cons_append, List.nil_append, List.replicate, Option.bind_some, Option.map_some, Option.bind_none, Option.map_none, Nat.reduceAdd, Nat.reduceSub, reduceIte, Bool.false_eq_true, if_false, if_true, List.getElem?_nil, List.replicate_succ, List.replicate_zero, hf, hc, a', countD]
      intro h1 h2
      simp [intD, h1] at a'
      omega
  | _ => simp [stepOf, cstepOf, runF, startE, eB, eS, eE, eEs, eEo, eTs, eI, R.bind, R.st, peek, peeks, Obj.data, truthR, truthO, asg, asgs, lstAt, asD, asDs, asD1, fresh, alloc, outO, outB, getO, ixO, cmpO, eqI, eqS, bnO, add_i, sub_i, augO, List.getElem?_cons_zero, List.getElem?_cons_succ, List.set_cons_zero, List.set_cons_succ, List.length_cons, List.length_nil, List.map_cons, List.map_nil, List.cons_append, List.nil_append, List.replicate, Option.bind_some, Option.map_some, Option.bind_none, Option.map_none, Nat.reduceAdd, Nat.reduceSub, reduceIte, Bool.false_eq_true, if_false, if_true, List.getElem?_nil, List.replicate_succ, List.replicate_zero, hf, hc, intD, countD]
def adjLe (ss : List T) : Bool := (List.zipWith (fun a b => !ltT b a) ss (ss.drop 1)).all id
def tupNames : D → Option (List T)
  | .tup xs => if xs.all nameD then strsO xs else none
  | _ => none
def sortedD (d : D) : Bool := match tupNames d with
  | some ss => adjLe ss
  | none => false
/-- data that are_sorted may be asked for -/
def okT : D → Bool
  | .tup xs => xs.all okD && decide (xs.length ≤ 16777216)
  | d => (tyOf d).isSome
theorem strs_names : ∀ {xs : List D}, xs.all nameD = true → ∃ ss : List T, xs = ss.map D.str ∧ strsO xs = some ss
  | [], _ => ⟨[], rfl, rfl⟩
  | x :: xs, h => by
    rw [List.all_cons, Bool.and_eq_true] at h
    obtain ⟨ss, e1, e2⟩ := strs_names h.2
    cases x with
    | str s => exact ⟨s :: ss, by rw [e1]; rfl, by rw [strsO, e2]; rfl⟩
    | _ => simp [nameD] at h
def sortedB (kn : Nat) : List IS := [
  .ifs (.or (.not (.bn false (.isin 3) [(.var 0)])) (.not (.bn false .all [(.comp false [3] (.nm 3) (.val (.var 0)) [] (.call false kn [(.var 3)]))]))) [
    .ret (.con (.bl false))] [],
  .ret (.bn false .all [(.comp false [1, 2] (.tup [(.nm 1), (.nm 2)]) (.zip (.var 0) (.slice (.var 0) (some (.con (.int 1))) none)) [] (.cmp .le (.var 1) (.var 2)))])]
theorem drop1 {α : Type} (xs : List α) : cut xs (some 1) none = xs.drop 1 := by
  unfold cut endO
  cases xs with
  | nil => rfl
  | cons x xs =>
    have e : (if (1 : Int) < 0 then ((1 : Int) + ((x :: xs).length : Int)).toNat else min (1 : Int).toNat (x :: xs).length) = 1 := by
      rw [if_neg (by decide)]
      simp
    simp [e]
theorem zipWith_strs (ss tt : List T) : List.zipWith (fun x y => D.tup [x, y]) (ss.map D.str) (tt.map D.str) = (List.zipWith (fun a b => (a, b)) ss tt).map fun p => D.tup [.str p.1, .str p.2] := by
  induction ss generalizing tt with
  | nil => rfl
  | cons s ss ih => cases tt with
    | nil => rfl
    | cons t tt => simp only [List.map_cons, List.zipWith_cons_cons, ih]
theorem zipWith_le (ss tt : List T) : ((List.zipWith (fun a b => (a, b)) ss tt).map fun p => (!ltT p.2 p.1)) = List.zipWith (fun a b => !ltT b a) ss tt := by
  induction ss generalizing tt with
  | nil => rfl
  | cons s ss ih => cases tt with
    | nil => rfl
    | cons t tt => simp only [List.map_cons, List.zipWith_cons_cons, ih]
theorem are_sorted_ok {P Pa : Pr} {kn : Nat} (hf : P.fn kn = runF Pa 2 nameB) {d : D} (h : okT d = true) : runF P 4 (sortedB kn) [.d d] [] = .ok (.d (.bl (sortedD d))) [] := by
  cases d with
  | tup xs =>
    simp only [okT, Bool.and_eq_true, List.all_eq_true, decide_eq_true_eq] at h
    obtain ⟨h0, hz⟩ := h
    have h1 : isO 3 (.tup xs) = some true := rfl
    have q1 : eI P (.val (.var 0)) [some (.d (.tup xs)), none, none, none] [] = .ok xs [] := by
      simp only [stepOf, cstepOf, runF, startE, eB, eS, eE, eEs, eEo, eTs, eI, R.bind, R.st, peek, peeks, Obj.data, truthR, truthO, asg, asgs, lstAt, asD, asDs, asD1, fresh, alloc, outO, outB, getO, ixO, cmpO, eqI, eqS, bnO, add_i, sub_i, augO, List.getElem?_cons_zero, List.getElem?_cons_succ, List.set_cons_zero, List.set_cons_succ, List.length_cons, List.length_nil, List.map_cons, List.map_nil, List.cons_append, List.nil_append, List.replicate, Option.bind_some, Option.map_some, Option.bind_none, Option.map_none, Nat.reduceAdd, Nat.reduceSub, reduceIte, Bool.false_eq_true, if_false, if_true, List.getElem?_nil, List.replicate_succ, List.replicate_zero, itemsO]
    have q2 := comp_ok (P := P) (own := [3]) (tg := .nm 3) (ifs := []) (elt := .call false kn [(.var 3)]) (ρ := [some (.d (.tup xs)), none, none, none]) (L := []) (L1 := []) (L2 := []) (ds := xs) (rs := xs.map fun x => D.bl (nameD x)) q1 hz (by
      have := compLoop_map (g := fun x : D => x) (h := fun x => D.bl (nameD x)) (step := cstepOf P [3] (.nm 3) [] (.call false kn [(.var 3)]) [some (.d (.tup xs)), none, none, none]) (L := []) (s := xs) (fun x hx => by
        have hc := callR_d (m := false) (L := []) (name_ok (P := Pa) (h0 x hx))
        simp only [stepOf, cstepOf, runF, startE, eB, eS, eE, eEs, eEo, eTs, eI, R.bind, R.st, peek, peeks, Obj.data, truthR, truthO, asg, asgs, lstAt, asD, asDs, asD1, fresh, alloc, outO, outB, getO, ixO, cmpO, eqI, eqS, bnO, add_i, sub_i, augO, List.getElem?_cons_zero, List.getElem?_cons_succ, List.set_cons_zero, List.set_cons_succ, List.length_cons, List.length_nil, List.map_cons, List.map_nil, List.cons_append, List.nil_append, List.replicate, Option.bind_some, Option.map_some, Option.bind_none, Option.map_none, Nat.reduceAdd, Nat.reduceSub, reduceIte, Bool.false_eq_true, if_false, if_true, List.getElem?_nil, List.replicate_succ, List.replicate_zero, wipeE, hf, hc])
      simpa using this)
    have q3 : bnO .all [.lst (xs.map fun x => D.bl (nameD x))] = some (.bl (xs.all nameD)) := by
      simp only [bnO, bools_map, Option.map_some]
      simp [Function.comp_def]
    have e1 : eE P (.or (.not (.bn false (.isin 3) [(.var 0)])) (.not (.bn false .all [(.comp false [3] (.nm 3) (.val (.var 0)) [] (.call false kn [(.var 3)]))]))) [some (.d (.tup xs)), none, none, none] [] = .ok (.d (.bl (!xs.all nameD))) [] := by
      have e2 : eE P (.bn false .all [(.comp false [3] (.nm 3) (.val (.var 0)) [] (.call false kn [(.var 3)]))]) [some (.d (.tup xs)), none, none, none] [] = .ok (.d (.bl (xs.all nameD))) [] := by
        rw [eE, eEs, q2]
        simp only [eEs, R.bind, peeks, peek, Option.bind_some, Option.map_some, q3, fresh, Bool.false_eq_true, if_false]
      have e3 : eE P (.not (.bn false (.isin 3) [(.var 0)])) [some (.d (.tup xs)), none, none, none] [] = .ok (.d (.bl false)) [] := by
        simp [stepOf, cstepOf, runF, startE, eB, eS, eE, eEs, eEo, eTs, eI, R.bind, R.st, peek, peeks, Obj.data, truthR, truthO, asg, asgs, lstAt, asD, asDs, asD1, fresh, alloc, outO, outB, getO, ixO, cmpO, eqI, eqS, bnO, add_i, sub_i, augO, List.getElem?_cons_zero, List.getElem?_cons_succ, List.set_cons_zero, List.set_cons_succ, List.length_cons, List.length_nil, List.map_cons, List.map_nil, List.cons_append, List.nil_append, List.replicate, Option.bind_some, Option.map_some, Option.bind_none, Option.map_none, Nat.reduceAdd, Nat.reduceSub, reduceIte, Bool.false_eq_true, if_false, if_true, List.getElem?_nil, List.replicate_succ, List.replicate_zero, h1]
      rw [eE, e3]
      simp only [R.bind, truthR, peek, truthO, Option.bind_some, Bool.false_eq_true, if_false]
      rw [eE, e2]
      simp only [R.bind, truthR, peek, truthO, Option.bind_some]
    have hS : startE 4 [W.d (D.tup xs)] = [some (.d (.tup xs)), none, none, none] := rfl
    by_cases a : xs.all nameD = true
    · obtain ⟨ss, rfl, e2⟩ := strs_names a
      rw [a] at e1
      have q3 : eS P (.ifs (.or (.not (.bn false (.isin 3) [(.var 0)])) (.not (.bn false .all [(.comp false [3] (.nm 3) (.val (.var 0)) [] (.call false kn [(.var 3)]))]))) [
    .ret (.con (.bl false))] []) [some (.d (.tup (ss.map D.str))), none, none, none] [] = .ok .nx [some (.d (.tup (ss.map D.str))), none, none, none] [] := by
        rw [ifs_bl e1]
        exact eB_nil (P := P)
      have q4 : eI P (.zip (.var 0) (.slice (.var 0) (some (.con (.int 1))) none)) [some (.d (.tup (ss.map D.str))), none, none, none] [] = .ok ((List.zipWith (fun a b => (a, b)) ss (ss.drop 1)).map fun p => D.tup [.str p.1, .str p.2]) [] := by
        simp only [stepOf, cstepOf, runF, startE, eB, eS, eE, eEs, eEo, eTs, eI, R.bind, R.st, peek, peeks, Obj.data, truthR, truthO, asg, asgs, lstAt, asD, asDs, asD1, fresh, alloc, outO, outB, getO, ixO, cmpO, eqI, eqS, bnO, add_i, sub_i, augO, List.getElem?_cons_zero, List.getElem?_cons_succ, List.set_cons_zero, List.set_cons_succ, List.length_cons, List.length_nil, List.map_cons, List.map_nil, List.cons_append, List.nil_append, List.replicate, Option.bind_some, Option.map_some, Option.bind_none, Option.map_none, Nat.reduceAdd, Nat.reduceSub, reduceIte, Bool.false_eq_true, if_false, if_true, List.getElem?_nil, List.replicate_succ, List.replicate_zero, sliceO, drop1, zipO]
        rw [← List.map_drop, zipWith_strs]
      have hz2 : ((List.zipWith (fun a b => (a, b)) ss (ss.drop 1)).map fun p => D.tup [.str p.1, .str p.2]).length ≤ SZ := by
        rw [List.length_map, List.length_zipWith]
        rw [List.length_map] at hz
        exact Nat.le_trans (Nat.min_le_left _ _) hz
      have q5 := comp_ok (P := P) (own := [1, 2]) (tg := .tup [.nm 1, .nm 2]) (ifs := []) (elt := .cmp .le (.var 1) (.var 2)) q4 hz2 (compLoop_map (h := fun p : T × T => D.bl (!ltT p.2 p.1)) (fun p hp => by
        simp only [stepOf, cstepOf, runF, startE, eB, eS, eE, eEs, eEo, eTs, eI, R.bind, R.st, peek, peeks, Obj.data, truthR, truthO, asg, asgs, lstAt, asD, asDs, asD1, fresh, alloc, outO, outB, getO, ixO, cmpO, eqI, eqS, bnO, add_i, sub_i, augO, List.getElem?_cons_zero, List.getElem?_cons_succ, List.set_cons_zero, List.set_cons_succ, List.length_cons, List.length_nil, List.map_cons, List.map_nil, List.cons_append, List.nil_append, List.replicate, Option.bind_some, Option.map_some, Option.bind_none, Option.map_none, Nat.reduceAdd, Nat.reduceSub, reduceIte, Bool.false_eq_true, if_false, if_true, List.getElem?_nil, List.replicate_succ, List.replicate_zero, wipeE]))
      refine runF_ok (ρ' := [some (.d (.tup (ss.map D.str))), none, none, none]) ?_
      unfold sortedB
      rw [hS, eB_cons q3]
      refine eB_last (ret_ok ?_)
      rw [eE, eEs, q5]
      simp only [stepOf, cstepOf, runF, startE, eB, eS, eE, eEs, eEo, eTs, eI, R.bind, R.st, peek, peeks, Obj.data, truthR, truthO, asg, asgs, lstAt, asD, asDs, asD1, fresh, alloc, outO, outB, getO, ixO, cmpO, eqI, eqS, bnO, add_i, sub_i, augO, List.getElem?_cons_zero, List.getElem?_cons_succ, List.set_cons_zero, List.set_cons_succ, List.length_cons, List.length_nil, List.map_cons, List.map_nil, List.cons_append, List.nil_append, List.replicate, Option.bind_some, Option.map_some, Option.bind_none, Option.map_none, Nat.reduceAdd, Nat.reduceSub, reduceIte, Bool.false_eq_true, if_false, if_true, List.getElem?_nil, List.replicate_succ, List.replicate_zero, bools_map]
      have hsd : sortedD (.tup (ss.map D.str)) = adjLe ss := by
        simp only [sortedD, tupNames, if_pos a, e2]
      rw [hsd]
      unfold adjLe
      rw [zipWith_le]
    · have a' : xs.all nameD = false := by simpa using a
      rw [a'] at e1
      have hsd : sortedD (.tup xs) = false := by
        simp only [sortedD, tupNames, if_neg a]
      refine runF_ok (ρ' := [some (.d (.tup xs)), none, none, none]) ?_
      unfold sortedB
      rw [hS]
      refine eB_last ?_
      rw [ifs_bl e1, hsd]
      exact ret_con (P := P) (ss := [])
  | non => simp [sortedB, stepOf, cstepOf, runF, startE, eB, eS, eE, eEs, eEo, eTs, eI, R.bind, R.st, peek, peeks, Obj.data, truthR, truthO, asg, asgs, lstAt, asD, asDs, asD1, fresh, alloc, outO, outB, getO, ixO, cmpO, eqI, eqS, bnO, add_i, sub_i, augO, List.getElem?_cons_zero, List.getElem?_cons_succ, List.set_cons_zero, List.set_cons_succ, List.length_cons, List.length_nil, List.map_cons, List.map_nil, List.cons_append, List.nil_append, List.replicate, Option.bind_some, Option.map_some, Option.bind_none, Option.map_none, Nat.reduceAdd, Nat.reduceSub, reduceIte, Bool.false_eq_true, if_false, if_true, List.getElem?_nil, List.replicate_succ, List.replicate_zero, show isO 3 .non = some false from rfl, sortedD, tupNames]
  | bl b => simp [sortedB, stepOf, cstepOf, runF, startE, eB, eS, eE, eEs, eEo, eTs, eI, R.bind, R.st, peek, peeks, Obj.data, truthR, truthO, asg, asgs, lstAt, asD, asDs, asD1, fresh, alloc, outO, outB, getO, ixO, cmpO, eqI, eqS, bnO, add_i, sub_i, augO, List.getElem?_cons_zero, List.getElem?_cons_succ, List.set_cons_zero, List.set_cons_succ, List.length_cons, List.length_nil, List.map_cons, List.map_nil, List.cons_append, List.nil_append, List.replicate, Option.bind_some, Option.map_some, Option.bind_none, Option.map_none, Nat.reduceAdd, Nat.reduceSub, reduceIte, Bool.false_eq_true, if_false, if_true, List.getElem?_nil, List.replicate_succ, List.replicate_zero, show isO 3 (.bl b) = some false from rfl, sortedD, tupNames]
  | int b => simp [sortedB, stepOf, cstepOf, runF, startE, eB, eS, eE, eEs, eEo, eTs, eI, R.bind, R.st, peek, peeks, Obj.data, truthR, truthO, asg, asgs, lstAt, asD, asDs, asD1, fresh, alloc, outO, outB, getO, ixO, cmpO, eqI, eqS, bnO, add_i, sub_i, augO, List.getElem?_cons_zero, List.getElem?_cons_succ, List.set_cons_zero, List.set_cons_succ, List.length_cons, List.length_nil, List.map_cons, List.map_nil, List.cons_append, List.nil_append, List.replicate, Option.bind_some, Option.map_some, Option.bind_none, Option.map_none, Nat.reduceAdd, Nat.reduceSub, reduceIte, Bool.false_eq_true, if_false, if_true, List.getElem?_nil, List.replicate_succ, List.replicate_zero, show isO 3 (.int b) = some false from rfl, sortedD, tupNames]
  | str b => simp [sortedB, stepOf, cstepOf, runF, startE, eB, eS, eE, eEs, eEo, eTs, eI, R.bind, R.st, peek, peeks, Obj.data, truthR, truthO, asg, asgs, lstAt, asD, asDs, asD1, fresh, alloc, outO, outB, getO, ixO, cmpO, eqI, eqS, bnO, add_i, sub_i, augO, List.getElem?_cons_zero, List.getElem?_cons_succ, List.set_cons_zero, List.set_cons_succ, List.length_cons, List.length_nil, List.map_cons, List.map_nil, List.cons_append, List.nil_append, List.replicate, Option.bind_some, Option.map_some, Option.bind_none, Option.map_none, Nat.reduceAdd, Nat.reduceSub, reduceIte, Bool.false_eq_true, if_false, if_true, List.getElem?_nil, List.replicate_succ, List.replicate_zero, show isO 3 (.str b) = some false from rfl, sortedD, tupNames]
  | lst b => simp [sortedB, stepOf, cstepOf, runF, startE, eB, eS, eE, eEs, eEo, eTs, eI, R.bind, R.st, peek, peeks, Obj.data, truthR, truthO, asg, asgs, lstAt, asD, asDs, asD1, fresh, alloc, outO, outB, getO, ixO, cmpO, eqI, eqS, bnO, add_i, sub_i, augO, List.getElem?_cons_zero, List.getElem?_cons_succ, List.set_cons_zero, List.set_cons_succ, List.length_cons, List.length_nil, List.map_cons, List.map_nil, List.cons_append, List.nil_append, List.replicate, Option.bind_some, Option.map_some, Option.bind_none, Option.map_none, Nat.reduceAdd, Nat.reduceSub, reduceIte, Bool.false_eq_true, if_false, if_true, List.getElem?_nil, List.replicate_succ, List.replicate_zero, show isO 3 (.lst b) = some false from rfl, sortedD, tupNames]
  | dct b => simp [sortedB, stepOf, cstepOf, runF, startE, eB, eS, eE, eEs, eEo, eTs, eI, R.bind, R.st, peek, peeks, Obj.data, truthR, truthO, asg, asgs, lstAt, asD, asDs, asD1, fresh, alloc, outO, outB, getO, ixO, cmpO, eqI, eqS, bnO, add_i, sub_i, augO, List.getElem?_cons_zero, List.getElem?_cons_succ, List.set_cons_zero, List.set_cons_succ, List.length_cons, List.length_nil, List.map_cons, List.map_nil, List.cons_append, List.nil_append, List.replicate, Option.bind_some, Option.map_some, Option.bind_none, Option.map_none, Nat.reduceAdd, Nat.reduceSub, reduceIte, Bool.false_eq_true, if_false, if_true, List.getElem?_nil, List.replicate_succ, List.replicate_zero, show isO 3 (.dct b) = some false from rfl, sortedD, tupNames]
  | _ => simp [okT, tyOf] at h
def isSortedB (kc ks x : Nat) : List IS := [
  .ifs (.not (.call false kc [(.var 1)])) [
    .raise x (.var 1)] [],
  .ret (.and (.call false ks [(.var 0)]) (.cmp .le (.bn false .len [(.var 0)]) (.var 1)))]
/-- whether a value is a sorted tuple of at most so many names -/
def sortedMost (d : D) (i : Int) : Bool := sortedD d && (match d with
  | .tup xs => decide ((xs.length : Int) ≤ i)
  | _ => false)
section
variable {P Pa Pb Pc Pd : Pr} {kc ks ki kn x : Nat} (hc : P.fn kc = runF Pa 1 (countB ki)) (hi : Pa.fn ki = runF Pb 1 integerB) (hs : P.fn ks = runF Pc 4 (sortedB kn)) (hn : Pc.fn kn = runF Pd 2 nameB)
include hc hi hs hn
theorem is_sorted_ok {d : D} (h : okT d = true) {i : Int} (hc0 : countD (.int i) = true) : runF P 2 (isSortedB kc ks x) [.d d, .d (.int i)] [] = .ok (.d (.bl (sortedMost d i))) [] := by
  have c1 := callR_d (m := false) (L := []) (counts_ok (P := Pa) hi (d := .int i) rfl)
  have c2 := callR_d (m := false) (L := []) (are_sorted_ok (P := Pc) hn h)
  rw [hc0] at c1
  unfold isSortedB
  by_cases a : sortedD d = true
  · cases d with
    | tup xs => simp [stepOf, cstepOf, runF, startE, eB, eS, eE, eEs, eEo, eTs, eI, R.bind, R.st, peek, peeks, Obj.data, truthR, truthO, asg, asgs, lstAt, asD, asDs, asD1, fresh, alloc, outO, outB, getO, ixO, cmpO, eqI, eqS, bnO, add_i, sub_i, augO, List.getElem?_cons_zero, List.getElem?_cons_succ, List.set_cons_zero, List.set_cons_succ, List.length_cons, List.length_nil, List.map_cons, List.map_nil, List.cons_append, List.nil_append, List.replicate, Option.bind_some, Option.map_some, Option.bind_none, Option.map_none, Nat.reduceAdd, Nat.reduceSub, reduceIte, Bool.false_eq_true, if_false, if_true, List.getElem?_nil, List.replicate_succ, List.replicate_zero, hc, c1, hs, c2, a, sortedMost]
    | _ => simp [sortedD, tupNames] at a
  · have a' : sortedD d = false := by simpa using a
    simp [stepOf, cstepOf, runF, startE, eB, eS, eE, eEs, eEo, eTs, eI, R.bind, R.st, peek, peeks, Obj.data, truthR, truthO, asg, asgs, lstAt, asD, asDs, asD1, fresh, alloc, outO, outB, getO, ixO, cmpO, eqI, eqS, bnO, add_i, sub_i, augO, List.getElem?_cons_zero, List.getElem?_cons_succ, List.set_cons_zero, List.set_cons_succ, List.length_cons, List.length_nil, List.map_cons, List.map_nil, List.cons_append, List.nil_append, List.replicate, Option.bind_some, Option.map_some, Option.bind_none, Option.map_none, Nat.reduceAdd, Nat.reduceSub, reduceIte, Bool.false_eq_true, if_false, if_true, List.getElem?_nil, List.replicate_succ, List.replicate_zero, hc, c1, hs, c2, a', sortedMost]
theorem is_sorted_err {d : D} {m : D} (hm : (tyOf m).isSome = true) (hc0 : countD m = false) : ∃ L, runF P 2 (isSortedB kc ks x) [.d d, .d m] [] = .err ⟨x, some m⟩ L := by
  have c1 := callR_d (m := false) (L := []) (counts_ok (P := Pa) hi (d := m) hm)
  rw [hc0] at c1
  exact ⟨[], by simp [isSortedB, stepOf, cstepOf, runF, startE, eB, eS, eE, eEs, eEo, eTs, eI, R.bind, R.st, peek, peeks, Obj.data, truthR, truthO, asg, asgs, lstAt, asD, asDs, asD1, fresh, alloc, outO, outB, getO, ixO, cmpO, eqI, eqS, bnO, add_i, sub_i, augO, List.getElem?_cons_zero, List.getElem?_cons_succ, List.set_cons_zero, List.set_cons_succ, List.length_cons, List.length_nil, List.map_cons, List.map_nil, List.cons_append, List.nil_append, List.replicate, Option.bind_some, Option.map_some, Option.bind_none, Option.map_none, Nat.reduceAdd, Nat.reduceSub, reduceIte, Bool.false_eq_true, if_false, if_true, List.getElem?_nil, List.replicate_succ, List.replicate_zero, hc, c1]⟩
end
end EV

set_option maxRecDepth 100000
set_option maxHeartbeats 4000000
namespace K01
open EV
theorem f3 : F3 = runF P3 5 rollB := rfl
theorem f4 : F4 = runF P4 2 (pickB 3) := rfl
theorem f6 : F6 = runF P6 1 integerB := rfl
theorem f7 : F7 = runF P7 1 (countB 6) := rfl
theorem f8 : F8 = runF P8 2 nameB := rfl
theorem f9 : F9 = runF P9 4 (sortedB 8) := rfl
theorem f10 : F10 = runF P10 2 (isSortedB 7 9 0) := rfl
theorem f14 : F14 = runF P14 4 diceB := rfl
def bases : List T := [[97], [98], [122], [97, 97], [97, 98], [97, 122], [98, 97], [98, 98], [98, 122], [122, 97], [122, 98], [122, 122]]
def words : List T := [] :: bases.flatMap fun w => [w, w ++ [97, 97, 97, 97, 97, 97, 97], w ++ [65], w ++ [32]]
def isBl (r : R W) (b : Bool) : Bool := match r with
  | .ok (.d (.bl c)) [] => c == b
  | _ => false
theorem isBl_ok {r : R W} {b : Bool} (h : isBl r b = true) : r = .ok (.d (.bl b)) [] := by
  unfold isBl at h
  split at h
  · rw [beq_iff_eq] at h; rw [h]
  · cases h
theorem lname_all : (words.all fun w => isBl (F12 [.d (.str w)] []) (isName w)) = true := by decide +kernel
theorem lname {w : T} (h : w ∈ words) : F12 [.d (.str w)] [] = .ok (.d (.bl (isName w))) [] := isBl_ok (List.all_eq_true.mp lname_all w h)
theorem less_all : (words.all fun a => words.all fun b => isBl (F0 [.d (.str a), .d (.str b)] []) (ltT a b)) = true := by decide +kernel
theorem less {a b : T} (ha : a ∈ words) (hb : b ∈ words) : F0 [.d (.str a), .d (.str b)] [] = .ok (.d (.bl (ltT a b))) [] := isBl_ok (List.all_eq_true.mp (List.all_eq_true.mp less_all a ha) b hb)
end K01

set_option maxRecDepth 100000
set_option maxHeartbeats 4000000
namespace K01
open EV
theorem strs_str : ∀ ss : List T, strsO (ss.map D.str) = some ss
  | [] => rfl
  | s :: ss => by simp only [List.map_cons, strsO, strs_str ss, Option.map_some]
theorem base_mem {xs : List D} {n : Nat} (hn : n = 1 ∨ n = 2) (hl : xs.length = n) (h : ∀ x ∈ xs, ∃ c, x = .str [c] ∧ c ∈ ([97, 97, 98, 122] : T)) : ∃ w ∈ bases, strsO xs = some (w.map fun c => [c]) ∧ joinT [] (w.map fun c => [c]) = w ∧ w.length = n := by
  rcases hn with rfl | rfl
  · match xs, hl with
    | [x], _ =>
      obtain ⟨c, rfl, hc⟩ := h x (by simp)
      simp only [List.mem_cons, List.not_mem_nil, or_false] at hc
      rcases hc with rfl | rfl | rfl | rfl <;> exact ⟨[_], by decide, rfl, rfl, rfl⟩
  · match xs, hl with
    | [x, y], _ =>
      obtain ⟨c, rfl, hc⟩ := h x (by simp)
      obtain ⟨e, rfl, he⟩ := h y (by simp)
      simp only [List.mem_cons, List.not_mem_nil, or_false] at hc he
      rcases hc with rfl | rfl | rfl | rfl <;> rcases he with rfl | rfl | rfl | rfl <;> exact ⟨[_, _], by decide, rfl, rfl, rfl⟩
theorem words_short : ∀ w ∈ words, w.length ≤ 9 := by decide
theorem bases_ok : (bases.all fun w => words.contains w && words.contains (w ++ [97, 97, 97, 97, 97, 97, 97]) && words.contains (w ++ [65]) && words.contains [] && words.contains (w ++ [32])) = true := by decide
def wordE : IE := .mn false .join (.con (.str [])) [(.comp false [2] (.nm 2) (.rng1 (.bin .add (.con (.int 1)) (.call false 3 [(.var 0), (.con (.int 2))]))) [] (.call false 4 [(.var 0), (.con (.str [97, 97, 98, 122]))]))]
theorem word_ok {k : Nat} (hk : k < 1000000) {o : Obj} (ho : DiceO k o) : ∃ w o', F5 [.loc 0] [o] = .ok (.d (.str w)) [o'] ∧ w ∈ words ∧ DiceO (k + 4) o' := by
  obtain ⟨z, o1, e1, z0, z1, d1⟩ := roll_call (P := P5) (Pa := P3) (kr := 3) (L := [o]) (n := 0) rfl (by omega) rfl ho (t := 2) (by decide) (by decide)
  obtain ⟨zn, rfl, hzn⟩ : ∃ zn : Nat, z = (zn : Int) ∧ (zn = 0 ∨ zn = 1) := ⟨z.toNat, by omega, by omega⟩
  have hr : rangeO 0 (1 + (zn : Int)) = some ((List.range (1 + zn)).map fun (k : Nat) => D.int (k : Int)) := by
    have h1 : 1 + (zn : Int) = ((1 + zn : Nat) : Int) := by omega
    rw [h1]
    exact rng_ok (by omega)
  have q1 : eI P5 (.rng1 (.bin .add (.con (.int 1)) (.call false 3 [(.var 0), (.con (.int 2))]))) [some (.loc 0), none, none] [o] = .ok ((List.range (1 + zn)).map fun (k : Nat) => D.int (k : Int)) [o1] := by
    refine rng1_ok ?_ hr
    simp only [stepOf, cstepOf, runF, startE, eB, eS, eE, eEs, eEo, eTs, eI, R.bind, R.st, peek, peeks, Obj.data, truthR, truthO, asg, asgs, lstAt, asD, asDs, asD1, fresh, alloc, outO, outB, getO, ixO, cmpO, eqI, eqS, bnO, add_i, sub_i, augO, List.getElem?_cons_zero, List.getElem?_cons_succ, List.set_cons_zero, List.set_cons_succ, List.length_cons, List.length_nil, List.map_cons, List.map_nil, List.cons_append, List.nil_append, List.replicate, Option.bind_some, Option.map_some, Option.bind_none, Option.map_none, Nat.reduceAdd, Nat.reduceSub, reduceIte, Bool.false_eq_true, if_false, if_true, List.getElem?_nil, List.replicate_succ, List.replicate_zero, e1]
  obtain ⟨xs, L2, e2, l2, p2, o2, rfl, d2⟩ := compLoop_ix (step := cstepOf P5 [2] (.nm 2) [] (.call false 4 [(.var 0), (.con (.str [97, 97, 98, 122]))]) [some (.loc 0), none, none]) (I := fun j L => ∃ o, L = [o] ∧ DiceO (k + 1 + j) o) (Pd := fun d => ∃ c, d = .str [c] ∧ c ∈ ([97, 97, 98, 122] : T)) ((List.range (1 + zn)).map fun (k : Nat) => D.int (k : Int)) 0 (fun j d hj L hi => by
    obtain ⟨o3, rfl, d3⟩ := hi
    have hjz : j < 1 + zn := by have := (List.getElem?_eq_some_iff.mp hj).1; simpa using this
    obtain ⟨c, o4, e4, hc, d4⟩ := pickS_call (P := P5) (Pa := P4) (Pb := P3) (kp := 4) (kr := 3) (L := [o3]) (n := 0) rfl rfl (by omega) rfl d3 (s := [97, 97, 98, 122]) (by decide) (by decide)
    refine ⟨.str [c], [o4], ?_, ⟨c, rfl, hc⟩, o4, rfl, ?_⟩
    · simp only [stepOf, cstepOf, runF, startE, eB, eS, eE, eEs, eEo, eTs, eI, R.bind, R.st, peek, peeks, Obj.data, truthR, truthO, asg, asgs, lstAt, asD, asDs, asD1, fresh, alloc, outO, outB, getO, ixO, cmpO, eqI, eqS, bnO, add_i, sub_i, augO, List.getElem?_cons_zero, List.getElem?_cons_succ, List.set_cons_zero, List.set_cons_succ, List.length_cons, List.length_nil, List.map_cons, List.map_nil, List.cons_append, List.nil_append, List.replicate, Option.bind_some, Option.map_some, Option.bind_none, Option.map_none, Nat.reduceAdd, Nat.reduceSub, reduceIte, Bool.false_eq_true, if_false, if_true, List.getElem?_nil, List.replicate_succ, List.replicate_zero, wipeE, e4]
    · rw [show k + 1 + (0 + j + 1) = k + 1 + (0 + j) + 1 from by omega]; exact d4) (L := [o1]) ⟨o1, rfl, d1⟩
  have hxl : xs.length = 1 + zn := by rw [l2]; simp
  obtain ⟨w, hw, s1, s2, s3⟩ := base_mem (n := 1 + zn) (by omega) hxl p2
  have q2 := comp_ok q1 (by rw [List.length_map, List.length_range]; show 1 + zn ≤ 16777216; omega) e2
  have hwl : w.length ≤ 2 := by omega
  have q3 : eE P5 wordE [some (.loc 0), none, none] [o] = .ok (.d (.str w)) [o2] := by
    have hp : mnPre .join (.d (.str [])) [o] = true := rfl
    have hs : ((w.map fun c => [c]).map (·.length)).sum + (w.map fun c => [c]).length * 0 ≤ SZ := by
      have : ∀ w : T, ((w.map fun c => [c]).map (·.length)).sum = w.length := by intro w; induction w with
        | nil => rfl
        | cons c w ih => simp only [List.map_cons, List.sum_cons, ih, List.length_cons, List.length_nil]; omega
      rw [this, Nat.mul_zero]; show w.length + 0 ≤ 16777216; omega
    exact mn1_ok rfl hp q2 rfl rfl (by simp only [mnO, s1, Option.bind_some, List.length_nil, hs, if_true, s2])
  have hdec := List.all_eq_true.mp bases_ok w hw
  simp only [Bool.and_eq_true, List.contains_iff_mem] at hdec
  have cat : ∀ t : T, t.length ≤ 10 → binO .add (.str w) (.str t) = some (.str (w ++ t)) := fun t ht => by
    simp only [binO]
    rw [if_pos (by show w.length + t.length ≤ 16777216; omega)]
  obtain ⟨c, o5, e5, hc, d5⟩ := pickL_call (P := P5) (Pa := P4) (Pb := P3) (kp := 4) (kr := 3) (L := [o2]) (n := 0) rfl rfl (by omega) rfl d2 (s := [.str w, .str w, .str w, .str w, .str (w ++ [97, 97, 97, 97, 97, 97, 97]), .str (w ++ [65]), .str [], .str (w ++ [32])]) (by simp) (by simp)
  have hcw : ∃ v ∈ words, c = .str v := by
    simp only [List.mem_cons, List.not_mem_nil, or_false] at hc
    rcases hc with h | h | h | h | h | h | h | h <;> exact ⟨_, by first | exact hdec.1.1.1.1 | exact hdec.1.1.1.2 | exact hdec.1.1.2 | exact hdec.1.2 | exact hdec.2, h⟩
  obtain ⟨v, hv, rfl⟩ := hcw
  have hrl : ((List.range (1 + zn)).map fun (k : Nat) => D.int (k : Int)).length = 1 + zn := by simp
  refine ⟨v, o5, ?_, hv, d5.mono (by omega)⟩
  refine runF_ok (ρ' := [some (.loc 0), some (.d (.str w)), none]) ?_
  have hB : b5 = [.asg (.nm 1) wordE, .ret (.call false 4 [(.var 0), (.lst false [(.var 1), (.var 1), (.var 1), (.var 1), (.bin .add (.var 1) (.con (.str [97, 97, 97, 97, 97, 97, 97]))), (.bin .add (.var 1) (.con (.str [65]))), (.con (.str [])), (.bin .add (.var 1) (.con (.str [32])))])])] := rfl
  have hS : startE 3 [W.loc 0] = [some (.loc 0), none, none] := rfl
  rw [hS, hB, eB_cons (asg_ok (i := 1) q3)]
  refine eB_last (ret_ok ?_)
  have e5' : callR false (P5.fn 4) [.loc 0, .d (.lst [.str w, .str w, .str w, .str w, .str (w ++ [97, 97, 97, 97, 97, 97, 97]), .str (w ++ [65]), .str [], .str (w ++ [32])])] [o2] = .ok (.d (.str v)) [o5] := e5
  simp only [stepOf, cstepOf, runF, startE, eB, eS, eE, eEs, eEo, eTs, eI, R.bind, R.st, peek, peeks, Obj.data, truthR, truthO, asg, asgs, lstAt, asD, asDs, asD1, fresh, alloc, outO, outB, getO, ixO, cmpO, eqI, eqS, bnO, add_i, sub_i, augO, List.getElem?_cons_zero, List.getElem?_cons_succ, List.set_cons_zero, List.set_cons_succ, List.length_cons, List.length_nil, List.map_cons, List.map_nil, List.cons_append, List.nil_append, List.replicate, Option.bind_some, Option.map_some, Option.bind_none, Option.map_none, Nat.reduceAdd, Nat.reduceSub, reduceIte, Bool.false_eq_true, if_false, if_true, List.getElem?_nil, List.replicate_succ, List.replicate_zero, cat [97, 97, 97, 97, 97, 97, 97] (by decide), cat [65] (by decide), cat [32] (by decide), e5']
end K01

set_option maxRecDepth 100000
set_option maxHeartbeats 4000000
namespace K01
open EV
def Rows (ws : List T) (n : Nat) (ds : List D) : Prop := ∀ d ∈ ds, ∃ r : List T, d = .tup (r.map D.str) ∧ (∀ w ∈ r, w ∈ ws) ∧ r.length ≤ n
theorem Rows.app {ws : List T} {n : Nat} {a b : List D} (h : Rows ws n a) (h2 : Rows ws n b) : Rows ws n (a ++ b) := fun d hd => (List.mem_append.mp hd).elim (h d) (h2 d)
theorem Rows.mono {ws : List T} {n m : Nat} {a : List D} (h : Rows ws n a) (l : n ≤ m) : Rows ws m a := fun d hd => by
  obtain ⟨r, h1, h2, h3⟩ := h d hd
  exact ⟨r, h1, h2, by omega⟩
def longE : IE := .comp false [6] (.nm 6) (.val (.var 0)) [] (.bin .add (.var 5) (.tup [(.var 6)]))
theorem long_ok {ws r : List T} (hr : r.length ≤ 4) (hw : ws.length ≤ 3) {s1 s2 s3 s4 s6 : Option W} {L : List Obj} : eE P2 longE [some (.d (.lst (ws.map D.str))), s1, s2, s3, s4, some (.d (.tup (r.map D.str))), s6] L = .ok (.d (.lst (ws.map fun w => D.tup ((r ++ [w]).map D.str)))) L := by
  have q1 : eI P2 (.val (.var 0)) [some (.d (.lst (ws.map D.str))), s1, s2, s3, s4, some (.d (.tup (r.map D.str))), s6] L = .ok (ws.map D.str) L := by
    simp only [stepOf, cstepOf, runF, startE, eB, eS, eE, eEs, eEo, eTs, eI, R.bind, R.st, peek, peeks, Obj.data, truthR, truthO, asg, asgs, lstAt, asD, asDs, asD1, fresh, alloc, outO, outB, getO, ixO, cmpO, eqI, eqS, bnO, add_i, sub_i, augO, List.getElem?_cons_zero, List.getElem?_cons_succ, List.set_cons_zero, List.set_cons_succ, List.length_cons, List.length_nil, List.map_cons, List.map_nil, List.cons_append, List.nil_append, List.replicate, Option.bind_some, Option.map_some, Option.bind_none, Option.map_none, Nat.reduceAdd, Nat.reduceSub, reduceIte, Bool.false_eq_true, if_false, if_true, List.getElem?_nil, List.replicate_succ, List.replicate_zero, itemsO]
  refine comp_ok q1 (by rw [List.length_map]; show ws.length ≤ 16777216; omega) (compLoop_map (g := D.str) (h := fun w => D.tup ((r ++ [w]).map D.str)) fun w hw => ?_)
  have e : binO .add (.tup (r.map D.str)) (.tup [.str w]) = some (.tup ((r ++ [w]).map D.str)) := by
    simp only [binO]
    rw [if_pos (by rw [List.length_map]; show r.length + 1 ≤ 16777216; omega)]
    simp
  simp only [stepOf, cstepOf, runF, startE, eB, eS, eE, eEs, eEo, eTs, eI, R.bind, R.st, peek, peeks, Obj.data, truthR, truthO, asg, asgs, lstAt, asD, asDs, asD1, fresh, alloc, outO, outB, getO, ixO, cmpO, eqI, eqS, bnO, add_i, sub_i, augO, List.getElem?_cons_zero, List.getElem?_cons_succ, List.set_cons_zero, List.set_cons_succ, List.length_cons, List.length_nil, List.map_cons, List.map_nil, List.cons_append, List.nil_append, List.replicate, Option.bind_some, Option.map_some, Option.bind_none, Option.map_none, Nat.reduceAdd, Nat.reduceSub, reduceIte, Bool.false_eq_true, if_false, if_true, List.getElem?_nil, List.replicate_succ, List.replicate_zero, wipeE, e]
def tinB : List IS := [.ex (.ext (.var 4) longE)]
theorem in_step {ws : List T} (hws : ws.length ≤ 3) {m j : Nat} (hj : j ≤ 4) {d : D} (hd : ∃ r : List T, d = .tup (r.map D.str) ∧ (∀ w ∈ r, w ∈ ws) ∧ r.length ≤ j) {s1 s2 s3 s6 : Option W} {L : List Obj} {ds : List D} (hL : L[m]? = some (.lst ds)) (hd2 : Rows ws (j + 1) ds) (hl : ds.length ≤ 1000) :
    ∃ ds', eB P2 tinB [some (.d (.lst (ws.map D.str))), s1, s2, s3, some (.loc m), some (.d d), s6] L = .ok .nx [some (.d (.lst (ws.map D.str))), s1, s2, s3, some (.loc m), some (.d d), s6] (L.set m (.lst ds')) ∧ Rows ws (j + 1) ds' ∧ ds'.length ≤ ds.length + 3 := by
  obtain ⟨r, rfl, h1, h2⟩ := hd
  refine ⟨ds ++ ws.map fun w => D.tup ((r ++ [w]).map D.str), ?_, hd2.app fun d hd => ?_, by simp; omega⟩
  · have e1 := long_ok (ws := ws) (r := r) (by omega) hws (s1 := s1) (s2 := s2) (s3 := s3) (s4 := some (.loc m)) (s6 := s6) (L := L)
    have hz : ds.length + (ws.map fun w => D.tup ((r ++ [w]).map D.str)).length ≤ SZ := by rw [List.length_map]; show ds.length + ws.length ≤ 16777216; omega
    have e2 : eE P2 (.ext (.var 4) longE) [some (.d (.lst (ws.map D.str))), s1, s2, s3, some (.loc m), some (.d (.tup (r.map D.str))), s6] L = .ok (.d .non) (L.set m (.lst (ds ++ ws.map fun w => D.tup ((r ++ [w]).map D.str)))) := by
      rw [eE]
      simp only [eE, List.getElem?_cons_zero, List.getElem?_cons_succ, R.bind, lstAt, hL, e1, asD]
      rw [if_pos hz]
    unfold tinB
    rw [eB_cons (ρ' := [some (.d (.lst (ws.map D.str))), s1, s2, s3, some (.loc m), some (.d (.tup (r.map D.str))), s6]) (L' := L.set m (.lst (ds ++ ws.map fun w => D.tup ((r ++ [w]).map D.str)))) (by simp only [eS, e2, R.st])]
    exact eB_nil
  · obtain ⟨w, hw, rfl⟩ := List.mem_map.mp hd
    exact ⟨r ++ [w], rfl, fun v hv => (List.mem_append.mp hv).elim (h1 v) (fun h => by rw [List.mem_singleton.mp h]; exact hw), by simp; omega⟩
theorem in_loop {ws : List T} (hws : ws.length ≤ 3) {m j : Nat} (hj : j ≤ 4) {s1 s2 s3 s5 : Option W} {L : List Obj} {l : List D} (hl : Rows ws j l) (hl2 : l.length ≤ 81) (hL : L[m]? = some (.lst [])) :
    ∃ s5' ds, forLoop (stepOf P2 (.nm 5) tinB) l [some (.d (.lst (ws.map D.str))), s1, s2, s3, some (.loc m), s5, none] L = .ok .nx [some (.d (.lst (ws.map D.str))), s1, s2, s3, some (.loc m), s5', none] (L.set m (.lst ds)) ∧ Rows ws (j + 1) ds ∧ ds.length ≤ 3 * l.length := by
  have hm : m < L.length := (List.getElem?_eq_some_iff.mp hL).1
  obtain ⟨ρ2, L2, e2, s5', ds, rfl, rfl, h1, h2⟩ := forLoop_ix (step := stepOf P2 (.nm 5) tinB) (I := fun k ρ L' => ∃ s5' ds, ρ = [some (.d (.lst (ws.map D.str))), s1, s2, s3, some (.loc m), s5', none] ∧ L' = L.set m (.lst ds) ∧ Rows ws (j + 1) ds ∧ ds.length ≤ 3 * k) l 0 (fun i d hd ρ L' hi => by
    obtain ⟨s5', ds, rfl, rfl, h1, h2⟩ := hi
    have hil : i < l.length := (List.getElem?_eq_some_iff.mp hd).1
    obtain ⟨ds', e, r1, r2⟩ := in_step hws hj (hl d (List.mem_of_getElem? hd)) (m := m) (L := L.set m (.lst ds)) (s1 := s1) (s2 := s2) (s3 := s3) (s6 := none) (List.getElem?_set_self hm) h1 (by omega)
    refine ⟨_, _, ?_, some (.d d), ds', rfl, rfl, r1, by omega⟩
    simp only [stepOf, asg, List.set_cons_succ, List.set_cons_zero]
    rw [e, List.set_set]) (ρ := [some (.d (.lst (ws.map D.str))), s1, s2, s3, some (.loc m), s5, none]) (L := L) ⟨s5, [], rfl, by
      have := List.getElem?_eq_some_iff.mp hL
      obtain ⟨h, e⟩ := this
      rw [← e, List.set_getElem_self], fun d hd => absurd hd (by simp), by simp⟩
  exact ⟨s5', ds, e2, h1, by omega⟩
def tupB : List IS := [
    .asg (.nm 4) (.lst true []),
    .for_ (.nm 5) (.val (.bn false .list [(.var 3)])) tinB,
    .ex (.ext (.var 2) (.var 4)),
    .asg (.nm 3) (.bn false .list [(.var 4)])]
theorem out_step {ws : List T} (hws : ws.length ≤ 3) {j : Nat} (hj : j < 4) {s1 s4 s5 : Option W} {f l : List D} {rest : List Obj} (hf : Rows ws 4 f) (hf2 : f.length ≤ 1000) (hl : Rows ws j l) (hl2 : l.length ≤ 81) :
    ∃ s4' s5' f' l' rest', eB P2 tupB [some (.d (.lst (ws.map D.str))), s1, some (.loc 0), some (.d (.lst l)), s4, s5, none] (.lst f :: rest) = .ok .nx [some (.d (.lst (ws.map D.str))), s1, some (.loc 0), some (.d (.lst l')), s4', s5', none] (.lst f' :: rest') ∧ Rows ws 4 f' ∧ f'.length ≤ f.length + 3 * l.length ∧ Rows ws (j + 1) l' ∧ l'.length ≤ 3 * l.length := by
  have q1 : eS P2 (.asg (.nm 4) (.lst true [])) [some (.d (.lst (ws.map D.str))), s1, some (.loc 0), some (.d (.lst l)), s4, s5, none] (.lst f :: rest) = .ok .nx [some (.d (.lst (ws.map D.str))), s1, some (.loc 0), some (.d (.lst l)), some (.loc (rest.length + 1)), s5, none] ((.lst f :: rest) ++ [.lst []]) := by
    simp only [stepOf, cstepOf, runF, startE, eB, eS, eE, eEs, eEo, eTs, eI, R.bind, R.st, peek, peeks, Obj.data, truthR, truthO, asg, asgs, lstAt, asD, asDs, asD1, fresh, alloc, outO, outB, getO, ixO, cmpO, eqI, eqS, bnO, add_i, sub_i, augO, List.getElem?_cons_zero, List.getElem?_cons_succ, List.set_cons_zero, List.set_cons_succ, List.length_cons, List.length_nil, List.map_cons, List.map_nil, List.cons_append, List.nil_append, List.replicate, Option.bind_some, Option.map_some, Option.bind_none, Option.map_none, Nat.reduceAdd, Nat.reduceSub, reduceIte, Bool.false_eq_true, if_false, if_true, List.getElem?_nil, List.replicate_succ, List.replicate_zero]
  have q2 : eI P2 (.val (.bn false .list [(.var 3)])) [some (.d (.lst (ws.map D.str))), s1, some (.loc 0), some (.d (.lst l)), some (.loc (rest.length + 1)), s5, none] ((.lst f :: rest) ++ [.lst []]) = .ok l ((.lst f :: rest) ++ [.lst []]) := by
    simp only [stepOf, cstepOf, runF, startE, eB, eS, eE, eEs, eEo, eTs, eI, R.bind, R.st, peek, peeks, Obj.data, truthR, truthO, asg, asgs, lstAt, asD, asDs, asD1, fresh, alloc, outO, outB, getO, ixO, cmpO, eqI, eqS, bnO, add_i, sub_i, augO, List.getElem?_cons_zero, List.getElem?_cons_succ, List.set_cons_zero, List.set_cons_succ, List.length_cons, List.length_nil, List.map_cons, List.map_nil, List.cons_append, List.nil_append, List.replicate, Option.bind_some, Option.map_some, Option.bind_none, Option.map_none, Nat.reduceAdd, Nat.reduceSub, reduceIte, Bool.false_eq_true, if_false, if_true, List.getElem?_nil, List.replicate_succ, List.replicate_zero, itemsO]
  obtain ⟨s5', ds, e3, r3, l3⟩ := in_loop hws (m := rest.length + 1) (j := j) (by omega) (s1 := s1) (s2 := some (.loc 0)) (s3 := some (.d (.lst l))) (s5 := s5) (L := (.lst f :: rest) ++ [.lst []]) hl hl2 (by simp)
  have hs : ((.lst f :: rest) ++ [.lst []] : List Obj).set (rest.length + 1) (.lst ds) = .lst f :: (rest ++ [.lst ds]) := by
    simp
  rw [hs] at e3
  have hz : f.length + ds.length ≤ SZ := by show _ ≤ 16777216; omega
  have hg : (rest ++ [Obj.lst ds])[rest.length]? = some (.lst ds) := by simp
  have q4 : eS P2 (.ex (.ext (.var 2) (.var 4))) [some (.d (.lst (ws.map D.str))), s1, some (.loc 0), some (.d (.lst l)), some (.loc (rest.length + 1)), s5', none] (.lst f :: (rest ++ [.lst ds])) = .ok .nx [some (.d (.lst (ws.map D.str))), s1, some (.loc 0), some (.d (.lst l)), some (.loc (rest.length + 1)), s5', none] (.lst (f ++ ds) :: (rest ++ [.frz (.lst ds)])) := by
    simp only [stepOf, cstepOf, runF, startE, eB, eS, eE, eEs, eEo, eTs, eI, R.bind, R.st, peek, peeks, Obj.data, truthR, truthO, asg, asgs, lstAt, asD, asDs, asD1, fresh, alloc, outO, outB, getO, ixO, cmpO, eqI, eqS, bnO, add_i, sub_i, augO, List.getElem?_cons_zero, List.getElem?_cons_succ, List.set_cons_zero, List.set_cons_succ, List.length_cons, List.length_nil, List.map_cons, List.map_nil, List.cons_append, List.nil_append, List.replicate, Option.bind_some, Option.map_some, Option.bind_none, Option.map_none, Nat.reduceAdd, Nat.reduceSub, reduceIte, Bool.false_eq_true, if_false, if_true, List.getElem?_nil, List.replicate_succ, List.replicate_zero, hg]
    simp [hz]
  have hg2 : (rest ++ [Obj.frz (.lst ds)])[rest.length]? = some (.frz (.lst ds)) := by simp
  have q5 : eS P2 (.asg (.nm 3) (.bn false .list [(.var 4)])) [some (.d (.lst (ws.map D.str))), s1, some (.loc 0), some (.d (.lst l)), some (.loc (rest.length + 1)), s5', none] (.lst (f ++ ds) :: (rest ++ [.frz (.lst ds)])) = .ok .nx [some (.d (.lst (ws.map D.str))), s1, some (.loc 0), some (.d (.lst ds)), some (.loc (rest.length + 1)), s5', none] (.lst (f ++ ds) :: (rest ++ [.frz (.lst ds)])) := by
    simp only [stepOf, cstepOf, runF, startE, eB, eS, eE, eEs, eEo, eTs, eI, R.bind, R.st, peek, peeks, Obj.data, truthR, truthO, asg, asgs, lstAt, asD, asDs, asD1, fresh, alloc, outO, outB, getO, ixO, cmpO, eqI, eqS, bnO, add_i, sub_i, augO, List.getElem?_cons_zero, List.getElem?_cons_succ, List.set_cons_zero, List.set_cons_succ, List.length_cons, List.length_nil, List.map_cons, List.map_nil, List.cons_append, List.nil_append, List.replicate, Option.bind_some, Option.map_some, Option.bind_none, Option.map_none, Nat.reduceAdd, Nat.reduceSub, reduceIte, Bool.false_eq_true, if_false, if_true, List.getElem?_nil, List.replicate_succ, List.replicate_zero, hg2]
  refine ⟨some (.loc (rest.length + 1)), s5', f ++ ds, ds, rest ++ [.frz (.lst ds)], ?_, hf.app (r3.mono (by omega)), by simp; omega, r3, l3⟩
  unfold tupB
  rw [eB_cons q1, eB_cons (for_ok q2 e3), eB_cons q4, eB_cons q5]
  exact eB_nil
theorem tuples_ok {ws : List T} (hws : ws.length ≤ 3) : ∃ f L, F2 [.d (.lst (ws.map D.str))] [] = .ok (.loc 0) L ∧ peek (.loc 0) L = some (.lst f) ∧ Rows ws 4 f := by
  have hS : startE 7 [W.d (.lst (ws.map D.str))] = [some (.d (.lst (ws.map D.str))), none, none, none, none, none, none] := rfl
  have q1 : eS P2 (.par [2, 3] [(.lst true [(.tup [])]), (.lst false [(.tup [])])]) [some (.d (.lst (ws.map D.str))), none, none, none, none, none, none] [] = .ok .nx [some (.d (.lst (ws.map D.str))), none, some (.loc 0), some (.d (.lst [.tup []])), none, none, none] [.lst [.tup []]] := by
    simp only [stepOf, cstepOf, runF, startE, eB, eS, eE, eEs, eEo, eTs, eI, R.bind, R.st, peek, peeks, Obj.data, truthR, truthO, asg, asgs, lstAt, asD, asDs, asD1, fresh, alloc, outO, outB, getO, ixO, cmpO, eqI, eqS, bnO, add_i, sub_i, augO, List.getElem?_cons_zero, List.getElem?_cons_succ, List.set_cons_zero, List.set_cons_succ, List.length_cons, List.length_nil, List.map_cons, List.map_nil, List.cons_append, List.nil_append, List.replicate, Option.bind_some, Option.map_some, Option.bind_none, Option.map_none, Nat.reduceAdd, Nat.reduceSub, reduceIte, Bool.false_eq_true, if_false, if_true, List.getElem?_nil, List.replicate_succ, List.replicate_zero, setAll]
  have q2 : eI P2 (.rng1 (.con (.int 4))) [some (.d (.lst (ws.map D.str))), none, some (.loc 0), some (.d (.lst [.tup []])), none, none, none] [.lst [.tup []]] = .ok ((List.range 4).map fun (k : Nat) => D.int (k : Int)) [.lst [.tup []]] := rng1_ok (by simp only [stepOf, cstepOf, runF, startE, eB, eS, eE, eEs, eEo, eTs, eI, R.bind, R.st, peek, peeks, Obj.data, truthR, truthO, asg, asgs, lstAt, asD, asDs, asD1, fresh, alloc, outO, outB, getO, ixO, cmpO, eqI, eqS, bnO, add_i, sub_i, augO, List.getElem?_cons_zero, List.getElem?_cons_succ, List.set_cons_zero, List.set_cons_succ, List.length_cons, List.length_nil, List.map_cons, List.map_nil, List.cons_append, List.nil_append, List.replicate, Option.bind_some, Option.map_some, Option.bind_none, Option.map_none, Nat.reduceAdd, Nat.reduceSub, reduceIte, Bool.false_eq_true, if_false, if_true, List.getElem?_nil, List.replicate_succ, List.replicate_zero]; rfl) (rng_ok (n := 4) (by decide))
  have r0 : ∀ n, Rows ws n [.tup []] := fun n d hd => ⟨[], by simpa using hd, by simp, by simp⟩
  have hp : ∀ j, j < 4 → 3 ^ j ≤ 27 := by decide
  obtain ⟨ρ1, L1, e1, s1, s4, s5, f, l, rest, rfl, rfl, h1, h2, h3, h4⟩ := forLoop_ix (step := stepOf P2 (.nm 1) tupB) (I := fun k ρ L => ∃ s1 s4 s5 f l rest, ρ = [some (.d (.lst (ws.map D.str))), s1, some (.loc 0), some (.d (.lst l)), s4, s5, none] ∧ L = .lst f :: rest ∧ Rows ws 4 f ∧ f.length ≤ 1 + 81 * k ∧ Rows ws k l ∧ l.length ≤ 3 ^ k) ((List.range 4).map fun (k : Nat) => D.int (k : Int)) 0 (fun j d hj ρ L hi => by
    obtain ⟨s1, s4, s5, f, l, rest, rfl, rfl, h1, h2, h3, h4⟩ := hi
    have hj4 : j < 4 := by have := (List.getElem?_eq_some_iff.mp hj).1; simpa using this
    have h27 := hp j hj4
    rw [Nat.zero_add] at h2 h3 h4
    obtain ⟨s4', s5', f', l', rest', e, k1, k2, k3, k4⟩ := out_step hws hj4 (s1 := some (.d d)) (s4 := s4) (s5 := s5) h1 (by omega) h3 (by omega) (rest := rest)
    refine ⟨_, _, ?_, some (.d d), s4', s5', f', l', rest', rfl, rfl, k1, by omega, by rw [Nat.zero_add]; exact k3, by rw [Nat.zero_add, Nat.pow_succ]; omega⟩
    simp only [stepOf, asg, List.set_cons_succ, List.set_cons_zero]
    exact e) (ρ := [some (.d (.lst (ws.map D.str))), none, some (.loc 0), some (.d (.lst [.tup []])), none, none, none]) (L := [.lst [.tup []]]) ⟨_, _, _, _, _, [], rfl, rfl, r0 _, by simp, r0 _, by simp⟩
  refine ⟨f, .lst f :: rest, runF_ok (ρ' := [some (.d (.lst (ws.map D.str))), s1, some (.loc 0), some (.d (.lst l)), s4, s5, none]) ?_, rfl, h1⟩
  have hB : b2 = [.par [2, 3] [(.lst true [(.tup [])]), (.lst false [(.tup [])])], .for_ (.nm 1) (.rng1 (.con (.int 4))) tupB, .ret (.var 2)] := rfl
  rw [hS, hB, eB_cons q1, eB_cons (for_ok q2 e1)]
  refine eB_last (ret_ok ?_)
  simp only [stepOf, cstepOf, runF, startE, eB, eS, eE, eEs, eEo, eTs, eI, R.bind, R.st, peek, peeks, Obj.data, truthR, truthO, asg, asgs, lstAt, asD, asDs, asD1, fresh, alloc, outO, outB, getO, ixO, cmpO, eqI, eqS, bnO, add_i, sub_i, augO, List.getElem?_cons_zero, List.getElem?_cons_succ, List.set_cons_zero, List.set_cons_succ, List.length_cons, List.length_nil, List.map_cons, List.map_nil, List.cons_append, List.nil_append, List.replicate, Option.bind_some, Option.map_some, Option.bind_none, Option.map_none, Nat.reduceAdd, Nat.reduceSub, reduceIte, Bool.false_eq_true, if_false, if_true, List.getElem?_nil, List.replicate_succ, List.replicate_zero]
end K01

set_option maxRecDepth 100000
set_option maxHeartbeats 4000000
namespace EV
theorem ltT_irrefl : ∀ a : T, ltT a a = false
  | [] => rfl
  | a :: as => by simp [ltT, ltT_irrefl as]
theorem ltT_trans : ∀ {a b c : T}, ltT a b = true → ltT b c = true → ltT a c = true
  | [], [], c, h, _ => by cases h
  | [], _ :: _, [], _, h => by cases h
  | [], _ :: _, _ :: _, _, _ => rfl
  | _ :: _, [], _, h, _ => by cases h
  | _ :: _, _ :: _, [], _, h => by cases h
  | a :: as, b :: bs, c :: cs, h1, h2 => by
    simp only [ltT, Bool.or_eq_true, Bool.and_eq_true, decide_eq_true_eq, beq_iff_eq] at h1 h2 ⊢
    rcases h1 with h1 | ⟨rfl, h1⟩
    · rcases h2 with h2 | ⟨rfl, h2⟩
      · exact .inl (by omega)
      · exact .inl h1
    · rcases h2 with h2 | ⟨rfl, h2⟩
      · exact .inl h2
      · exact .inr ⟨rfl, ltT_trans h1 h2⟩
theorem ltT_total : ∀ {a b : T}, ltT a b = false → a ≠ b → ltT b a = true
  | [], [], _, h => absurd rfl h
  | [], _ :: _, h, _ => by cases h
  | _ :: _, [], _, _ => rfl
  | a :: as, b :: bs, h, hn => by
    simp only [ltT, Bool.or_eq_false_iff, Bool.and_eq_false_iff, decide_eq_false_iff_not, beq_eq_false_iff_ne] at h
    simp only [ltT, Bool.or_eq_true, Bool.and_eq_true, decide_eq_true_eq, beq_iff_eq]
    obtain ⟨h1, h2⟩ := h
    by_cases e : a = b
    · subst e
      refine .inr ⟨rfl, ltT_total ?_ (fun z => hn (by rw [z]))⟩
      rcases h2 with h2 | h2
      · exact absurd rfl h2
      · exact h2
    · exact .inl (by omega)
theorem ltT_asymm {a b : T} (h : ltT a b = true) : ltT b a = false := by
  cases q : ltT b a with
  | false => rfl
  | true => have := ltT_trans h q; rw [ltT_irrefl] at this; cases this
theorem cut_take {α : Type} (xs : List α) {n : Nat} (h : n ≤ xs.length) : cut xs none (some (n : Int)) = xs.take n := by
  unfold cut endO
  have e : ¬ (n : Int) < 0 := by omega
  simp only [e, if_false, List.drop_zero]
  congr 1
  simp
  omega
theorem cut_drop {α : Type} (xs : List α) {n : Nat} (h : n ≤ xs.length) : cut xs (some (n : Int)) none = xs.drop n := by
  unfold cut endO
  have e : ¬ (n : Int) < 0 := by omega
  simp only [e, if_false]
  have e2 : min (n : Int).toNat xs.length = n := by simp; omega
  rw [e2]
  rw [List.take_of_length_le]
  simp
theorem keyS_inj {a b : T} (h : keyD (.str a) = keyD (.str b)) : a = b := by
  simp only [keyD, Option.some.injEq, Sum.inr.injEq, PySem.Str.mk.injEq] at h
  simpa using h
theorem keyS (a b : T) : decide (keyD (.str a) = keyD (.str b)) = decide (a = b) := by
  by_cases h : a = b
  · subst h; simp
  · have : ¬ keyD (.str a) = keyD (.str b) := fun z => h (keyS_inj z)
    rw [decide_eq_false h, decide_eq_false this]
/-- a dict with texts as keys -/
def strK (ps : List (T × D)) : List (D × D) := ps.map fun p => (.str p.1, p.2)
theorem atK (ps : List (T × D)) (k : T) : atD (strK ps) (.str k) = (ps.find? fun p => decide (p.1 = k)).map (·.2) := by
  unfold atD strK
  rw [List.find?_map, Option.map_map]
  have : ((fun p : D × D => decide (keyD p.1 = keyD (.str k))) ∘ fun p : T × D => (D.str p.1, p.2)) = fun p => decide (p.1 = k) := by
    funext p
    exact keyS p.1 k
  rw [this]
  rfl
theorem putK_new {ps : List (T × D)} {k : T} {v : D} (h : k ∉ ps.map (·.1)) : putD (strK ps) (.str k) v = strK (ps ++ [(k, v)]) := by
  unfold putD
  have e : ((strK ps).any fun p => decide (keyD p.1 = keyD (.str k))) = false := by
    rw [List.any_eq_false]
    intro p hp
    unfold strK at hp
    obtain ⟨q, hq, rfl⟩ := List.mem_map.mp hp
    rw [keyS, decide_eq_true_eq]
    exact fun z => h (z ▸ List.mem_map.mpr ⟨q, hq, rfl⟩)
  rw [e]
  simp [strK]
theorem mergeK_new : ∀ (more ps : List (T × D)), ((ps ++ more).map (·.1)).Nodup → mergeD (strK ps) (strK more) = strK (ps ++ more)
  | [], ps, _ => by simp [mergeD, strK]
  | (k, v) :: more, ps, h => by
    have h1 : k ∉ ps.map (·.1) := fun z => by
      rw [List.map_append, List.nodup_append] at h
      exact h.2.2 k z k (by simp) rfl
    have e : mergeD (strK ps) (strK ((k, v) :: more)) = mergeD (putD (strK ps) (.str k) v) (strK more) := rfl
    rw [e, putK_new h1, mergeK_new more (ps ++ [(k, v)]) (by rw [List.append_assoc]; exact h), List.append_assoc]
    rfl
theorem plain_strs {ws : List T} (h : ∀ w ∈ ws, (D.str w).plain = true) : plains (ws.map D.str) = true := by
  induction ws with
  | nil => rfl
  | cons w ws ih =>
    simp only [List.map_cons, plains, Bool.and_eq_true]
    exact ⟨h w (by simp), ih fun v hv => h v (by simp [hv])⟩
theorem deep_strs (ws : List T) : deeps (ws.map D.str) = 0 := by
  induction ws with
  | nil => rfl
  | cons w ws ih => simp [deeps, D.deep, ih]
theorem in_strs {ws : List T} {w : T} (hw : (D.str w).plain = true) (h : ∀ w ∈ ws, (D.str w).plain = true) : inO (.str w) (.lst (ws.map D.str)) = some (decide (w ∈ ws)) := by
  have e : ((ws.map D.str).any fun y => D.eqv y (.str w)) = decide (w ∈ ws) := by
    rw [List.any_map]
    by_cases q : w ∈ ws
    · rw [decide_eq_true q, List.any_eq_true]
      exact ⟨w, q, by simp [D.eqv]⟩
    · rw [decide_eq_false q, List.any_eq_false]
      intro v hv
      simp [D.eqv]
      exact fun z => q (z ▸ hv)
  simp only [inO]
  rw [hw, plain_strs h, deep_strs, e]
  rfl
def adjI (ns : List Int) : Bool := (List.zipWith (fun a b => decide (a ≤ b)) ns (ns.drop 1)).all id
theorem adjI_cons (x y : Int) (l : List Int) : adjI (x :: y :: l) = (decide (x ≤ y) && adjI (y :: l)) := by
  simp [adjI]
theorem adjI_sort : ∀ ns : List Int, adjI ns = true → sortI ns = ns
  | [], _ => rfl
  | [x], _ => rfl
  | x :: y :: l, h => by
    rw [adjI_cons, Bool.and_eq_true, decide_eq_true_eq] at h
    rw [sortI, adjI_sort (y :: l) h.2, insI, if_pos h.1]
theorem adjI_of : ∀ ns : List Int, ns.Pairwise (· ≤ ·) → adjI ns = true
  | [], _ => rfl
  | [x], _ => rfl
  | x :: y :: l, h => by
    rw [adjI_cons, Bool.and_eq_true, decide_eq_true_eq]
    rw [List.pairwise_cons] at h
    exact ⟨h.1 y (by simp), adjI_of (y :: l) h.2⟩
theorem adjI_iff (ns : List Int) : decide (ns = sortI ns) = adjI ns := by
  cases q : adjI ns with
  | true => rw [adjI_sort ns q]; simp
  | false =>
    apply decide_eq_false
    intro e
    have := adjI_of ns (by rw [e]; exact sortI_sorted ns)
    rw [q] at this; cases this
theorem eqv_ints : ∀ a b : List Int, eqvs (a.map D.int) (b.map D.int) = decide (a = b)
  | [], [] => rfl
  | [], _ :: _ => rfl
  | _ :: _, [] => rfl
  | x :: xs, y :: ys => by
    simp only [List.map_cons, eqvs, D.eqv, eqv_ints xs ys]
    by_cases h : x = y
    · subst h
      by_cases h2 : xs = ys
      · subst h2; simp
      · simp [h2]
    · simp [h]
theorem plain_ints (ns : List Int) : plains (ns.map D.int) = true := by
  induction ns with
  | nil => rfl
  | cons w ws ih => simp [plains, D.plain, ih]
theorem deep_ints (ns : List Int) : deeps (ns.map D.int) = 0 := by
  induction ns with
  | nil => rfl
  | cons w ws ih => simp [deeps, D.deep, ih]
theorem ints_int (ns : List Int) : intsO (ns.map D.int) = some ns := by
  induction ns with
  | nil => rfl
  | cons w ws ih => simp [intsO, ih]
theorem eq_ints (a b : List Int) : eqO (.lst (a.map D.int)) (.lst (b.map D.int)) = some (decide (a = b)) := by
  simp only [eqO, D.plain, plain_ints, D.deep, deep_ints, Bool.and_self, D.eqv, eqv_ints]
  rfl
end EV

set_option maxRecDepth 100000
set_option maxHeartbeats 4000000
namespace K01
open EV
def pos (w : T) : List T → Nat
  | [] => 0
  | x :: xs => if ltT x w then 1 + pos w xs else 0
theorem pos_le (w : T) : ∀ xs, pos w xs ≤ xs.length
  | [] => Nat.le_refl _
  | x :: xs => by
    unfold pos
    split
    · have := pos_le w xs; rw [List.length_cons]; omega
    · omega
theorem pos_lt (w : T) : ∀ (xs : List T) (j : Nat), j < pos w xs → ∃ x, xs[j]? = some x ∧ ltT x w = true
  | [], j, h => by simp [pos] at h
  | x :: xs, j, h => by
    unfold pos at h
    split at h
    · cases j with
      | zero => exact ⟨x, rfl, by assumption⟩
      | succ j => exact pos_lt w xs j (by omega)
    · omega
theorem pos_at (w : T) : ∀ (xs : List T) (x : T), xs[pos w xs]? = some x → ltT x w = false
  | [], x, h => by simp at h
  | y :: xs, x, h => by
    unfold pos at h
    split at h
    · rw [Nat.add_comm, List.getElem?_cons_succ] at h
      exact pos_at w xs x h
    · rename_i q
      simp at h
      subst h
      simpa using q
def ins (w : T) (xs : List T) : List T := xs.take (pos w xs) ++ [w] ++ xs.drop (pos w xs)
theorem ins_mem (w v : T) (xs : List T) : v ∈ ins w xs ↔ v = w ∨ v ∈ xs := by
  unfold ins
  have : v ∈ xs ↔ v ∈ xs.take (pos w xs) ∨ v ∈ xs.drop (pos w xs) := by
    rw [← List.mem_append, List.take_append_drop]
  rw [this]
  simp only [List.mem_append, List.mem_singleton]
  exact ⟨fun h => by rcases h with (h | h) | h <;> simp [h], fun h => by rcases h with h | h | h <;> simp [h]⟩
theorem ins_sorted (w : T) : ∀ xs : List T, xs.Pairwise (fun a b => ltT a b = true) → w ∉ xs → (ins w xs).Pairwise (fun a b => ltT a b = true)
  | [], _, _ => by simp [ins, pos]
  | x :: xs, h, hn => by
    rw [List.pairwise_cons] at h
    have hx : x ≠ w := fun z => hn (z ▸ List.mem_cons_self)
    by_cases q : ltT x w = true
    · have e : ins w (x :: xs) = x :: ins w xs := by
        unfold ins
        rw [pos, if_pos q, Nat.add_comm, List.take_succ_cons, List.drop_succ_cons]
        rfl
      rw [e, List.pairwise_cons]
      refine ⟨fun v hv => ?_, ins_sorted w xs h.2 fun z => hn (List.mem_cons_of_mem _ z)⟩
      rcases (ins_mem w v xs).mp hv with rfl | hv
      · exact q
      · exact h.1 v hv
    · have e : ins w (x :: xs) = w :: x :: xs := by
        unfold ins
        rw [pos, if_neg q]
        rfl
      have q' : ltT x w = false := by simpa using q
      have hw : ltT w x = true := ltT_total q' hx
      rw [e, List.pairwise_cons]
      refine ⟨fun v hv => ?_, List.pairwise_cons.mpr h⟩
      rcases List.mem_cons.mp hv with rfl | hv
      · exact hw
      · exact ltT_trans hw (h.1 v hv)
theorem words_plain : ∀ w ∈ words, (D.str w).plain = true := by decide
def whT : IE := .and (.cmp .lt (.var 3) (.bn false .len [(.var 1)])) (.call false 0 [(.idx (.var 1) (.var 3)), (.var 2)])
def whB : List IS := [.asg (.nm 3) (.bin .add (.var 3) (.con (.int 1)))]
theorem wh_ok {rs : List T} {w : T} (hrs : ∀ v ∈ rs, v ∈ words) (hw : w ∈ words) {s0 : Option W} : ∀ (k j n : Nat), j + k = pos w rs → k < n →
    whLoop (fun ρ L => (eE P1 whT ρ L).bind fun w L => truthR w L) (fun ρ L => eB P1 whB ρ L) n [s0, some (.d (.lst (rs.map D.str))), some (.d (.str w)), some (.d (.int (j : Int)))] [] = .ok .nx [s0, some (.d (.lst (rs.map D.str))), some (.d (.str w)), some (.d (.int (pos w rs : Int)))] []
  | 0, j, n, hj, hn => by
    have hj' : j = pos w rs := by omega
    subst hj'
    obtain ⟨n, rfl⟩ : ∃ m, n = m + 1 := ⟨n - 1, by omega⟩
    have e : eE P1 whT [s0, some (.d (.lst (rs.map D.str))), some (.d (.str w)), some (.d (.int (pos w rs : Int)))] [] = .ok (.d (.bl false)) [] := by
      by_cases h : pos w rs < rs.length
      · have hx : rs[pos w rs]? = some rs[pos w rs] := List.getElem?_eq_getElem h
        have hl := pos_at w rs _ hx
        have hm : rs[pos w rs] ∈ rs := List.getElem_mem h
        have hc := callR_dd (m := false) (L := []) (less (hrs _ hm) hw)
        rw [hl] at hc
        have f0 : P1.fn 0 = F0 := rfl
        have h1 : ((pos w rs : Nat) : Int) < (rs.length : Int) := by omega
        simp [whT, stepOf, cstepOf, runF, startE, eB, eS, eE, eEs, eEo, eTs, eI, R.bind, R.st, peek, peeks, Obj.data, truthR, truthO, asg, asgs, lstAt, asD, asDs, asD1, fresh, alloc, outO, outB, getO, ixO, cmpO, eqI, eqS, bnO, add_i, sub_i, augO, List.getElem?_cons_zero, List.getElem?_cons_succ, List.set_cons_zero, List.set_cons_succ, List.length_cons, List.length_nil, List.map_cons, List.map_nil, List.cons_append, List.nil_append, List.replicate, Option.bind_some, Option.map_some, Option.bind_none, Option.map_none, Nat.reduceAdd, Nat.reduceSub, reduceIte, Bool.false_eq_true, if_false, if_true, List.getElem?_nil, List.replicate_succ, List.replicate_zero, f0, hc, h1, h]
      · have h1 : ¬ ((pos w rs : Nat) : Int) < (rs.length : Int) := by omega
        simp [whT, stepOf, cstepOf, runF, startE, eB, eS, eE, eEs, eEo, eTs, eI, R.bind, R.st, peek, peeks, Obj.data, truthR, truthO, asg, asgs, lstAt, asD, asDs, asD1, fresh, alloc, outO, outB, getO, ixO, cmpO, eqI, eqS, bnO, add_i, sub_i, augO, List.getElem?_cons_zero, List.getElem?_cons_succ, List.set_cons_zero, List.set_cons_succ, List.length_cons, List.length_nil, List.map_cons, List.map_nil, List.cons_append, List.nil_append, List.replicate, Option.bind_some, Option.map_some, Option.bind_none, Option.map_none, Nat.reduceAdd, Nat.reduceSub, reduceIte, Bool.false_eq_true, if_false, if_true, List.getElem?_nil, List.replicate_succ, List.replicate_zero, h1]
    rw [whLoop, e]
    rfl
  | k + 1, j, n, hj, hn => by
    obtain ⟨n, rfl⟩ : ∃ m, n = m + 1 := ⟨n - 1, by omega⟩
    have hlt : j < pos w rs := by omega
    have hle := pos_le w rs
    have hjl : j < rs.length := by omega
    obtain ⟨x, hx, hl⟩ := pos_lt w rs j hlt
    have hxe : rs[j] = x := by rw [List.getElem?_eq_getElem hjl] at hx; exact Option.some.inj hx
    have e : eE P1 whT [s0, some (.d (.lst (rs.map D.str))), some (.d (.str w)), some (.d (.int (j : Int)))] [] = .ok (.d (.bl true)) [] := by
      have hc := callR_dd (m := false) (L := []) (less (hrs _ (List.mem_of_getElem? hx)) hw)
      rw [hl] at hc
      have f0 : P1.fn 0 = F0 := rfl
      have h1 : ((j : Nat) : Int) < (rs.length : Int) := by omega
      simp [whT, stepOf, cstepOf, runF, startE, eB, eS, eE, eEs, eEo, eTs, eI, R.bind, R.st, peek, peeks, Obj.data, truthR, truthO, asg, asgs, lstAt, asD, asDs, asD1, fresh, alloc, outO, outB, getO, ixO, cmpO, eqI, eqS, bnO, add_i, sub_i, augO, List.getElem?_cons_zero, List.getElem?_cons_succ, List.set_cons_zero, List.set_cons_succ, List.length_cons, List.length_nil, List.map_cons, List.map_nil, List.cons_append, List.nil_append, List.replicate, Option.bind_some, Option.map_some, Option.bind_none, Option.map_none, Nat.reduceAdd, Nat.reduceSub, reduceIte, Bool.false_eq_true, if_false, if_true, List.getElem?_nil, List.replicate_succ, List.replicate_zero, f0, h1, hjl, hxe, hc]
    have e2 : eB P1 whB [s0, some (.d (.lst (rs.map D.str))), some (.d (.str w)), some (.d (.int (j : Int)))] [] = .ok .nx [s0, some (.d (.lst (rs.map D.str))), some (.d (.str w)), some (.d (.int ((j + 1 : Nat) : Int)))] [] := by
      simp only [whB, stepOf, cstepOf, runF, startE, eB, eS, eE, eEs, eEo, eTs, eI, R.bind, R.st, peek, peeks, Obj.data, truthR, truthO, asg, asgs, lstAt, asD, asDs, asD1, fresh, alloc, outO, outB, getO, ixO, cmpO, eqI, eqS, bnO, add_i, sub_i, augO, List.getElem?_cons_zero, List.getElem?_cons_succ, List.set_cons_zero, List.set_cons_succ, List.length_cons, List.length_nil, List.map_cons, List.map_nil, List.cons_append, List.nil_append, List.replicate, Option.bind_some, Option.map_some, Option.bind_none, Option.map_none, Nat.reduceAdd, Nat.reduceSub, reduceIte, Bool.false_eq_true, if_false, if_true, List.getElem?_nil, List.replicate_succ, List.replicate_zero]
      rfl
    have ih := wh_ok hrs hw (s0 := s0) k (j + 1) n (by omega) (by omega)
    rw [whLoop, e]
    simp only [R.bind, R.st, truthR, peek, truthO, Option.bind_some, if_true, e2]
    exact ih
def plB : List IS := [
    .asg (.nm 3) (.con (.int 0)),
    .wh 1000000 whT whB,
    .asg (.nm 1) (.ite (.cmp .notIn (.var 2) (.var 1)) (.bin .add (.bin .add (.slice (.var 1) none (some (.var 3))) (.lst false [(.var 2)])) (.slice (.var 1) (some (.var 3)) none)) (.var 1))]
def insD (w : T) (rs : List T) : List T := if w ∈ rs then rs else ins w rs
theorem pl_step {rs : List T} {w : T} (hrs : ∀ v ∈ rs, v ∈ words) (hw : w ∈ words) (hl : rs.length ≤ 100) {s0 s3 : Option W} :
    eB P1 plB [s0, some (.d (.lst (rs.map D.str))), some (.d (.str w)), s3] [] = .ok .nx [s0, some (.d (.lst ((insD w rs).map D.str))), some (.d (.str w)), some (.d (.int (pos w rs : Int)))] [] := by
  have q1 : eS P1 (.asg (.nm 3) (.con (.int 0))) [s0, some (.d (.lst (rs.map D.str))), some (.d (.str w)), s3] [] = .ok .nx [s0, some (.d (.lst (rs.map D.str))), some (.d (.str w)), some (.d (.int ((0 : Nat) : Int)))] [] := by
    simp only [stepOf, cstepOf, runF, startE, eB, eS, eE, eEs, eEo, eTs, eI, R.bind, R.st, peek, peeks, Obj.data, truthR, truthO, asg, asgs, lstAt, asD, asDs, asD1, fresh, alloc, outO, outB, getO, ixO, cmpO, eqI, eqS, bnO, add_i, sub_i, augO, List.getElem?_cons_zero, List.getElem?_cons_succ, List.set_cons_zero, List.set_cons_succ, List.length_cons, List.length_nil, List.map_cons, List.map_nil, List.cons_append, List.nil_append, List.replicate, Option.bind_some, Option.map_some, Option.bind_none, Option.map_none, Nat.reduceAdd, Nat.reduceSub, reduceIte, Bool.false_eq_true, if_false, if_true, List.getElem?_nil, List.replicate_succ, List.replicate_zero]
    rfl
  have hle := pos_le w rs
  have q2 : eS P1 (.wh 1000000 whT whB) [s0, some (.d (.lst (rs.map D.str))), some (.d (.str w)), some (.d (.int ((0 : Nat) : Int)))] [] = .ok .nx [s0, some (.d (.lst (rs.map D.str))), some (.d (.str w)), some (.d (.int (pos w rs : Int)))] [] := by
    rw [eS]
    exact wh_ok hrs hw (pos w rs) 0 1000000 (by omega) (by omega)
  have hin := in_strs (words_plain w hw) fun v hv => words_plain v (hrs v hv)
  have q3 : eS P1 (.asg (.nm 1) (.ite (.cmp .notIn (.var 2) (.var 1)) (.bin .add (.bin .add (.slice (.var 1) none (some (.var 3))) (.lst false [(.var 2)])) (.slice (.var 1) (some (.var 3)) none)) (.var 1))) [s0, some (.d (.lst (rs.map D.str))), some (.d (.str w)), some (.d (.int (pos w rs : Int)))] [] = .ok .nx [s0, some (.d (.lst ((insD w rs).map D.str))), some (.d (.str w)), some (.d (.int (pos w rs : Int)))] [] := by
    have e1 : eE P1 (.cmp .notIn (.var 2) (.var 1)) [s0, some (.d (.lst (rs.map D.str))), some (.d (.str w)), some (.d (.int (pos w rs : Int)))] [] = .ok (.d (.bl (!decide (w ∈ rs)))) [] := by
      simp only [stepOf, cstepOf, runF, startE, eB, eS, eE, eEs, eEo, eTs, eI, R.bind, R.st, peek, peeks, Obj.data, truthR, truthO, asg, asgs, lstAt, asD, asDs, asD1, fresh, alloc, outO, outB, getO, ixO, cmpO, eqI, eqS, bnO, add_i, sub_i, augO, List.getElem?_cons_zero, List.getElem?_cons_succ, List.set_cons_zero, List.set_cons_succ, List.length_cons, List.length_nil, List.map_cons, List.map_nil, List.cons_append, List.nil_append, List.replicate, Option.bind_some, Option.map_some, Option.bind_none, Option.map_none, Nat.reduceAdd, Nat.reduceSub, reduceIte, Bool.false_eq_true, if_false, if_true, List.getElem?_nil, List.replicate_succ, List.replicate_zero, hin]
    refine asg_ok ?_
    rw [ite_bl e1]
    unfold insD
    by_cases q : w ∈ rs
    · rw [decide_eq_true q, if_pos q]
      simp only [stepOf, cstepOf, runF, startE, eB, eS, eE, eEs, eEo, eTs, eI, R.bind, R.st, peek, peeks, Obj.data, truthR, truthO, asg, asgs, lstAt, asD, asDs, asD1, fresh, alloc, outO, outB, getO, ixO, cmpO, eqI, eqS, bnO, add_i, sub_i, augO, List.getElem?_cons_zero, List.getElem?_cons_succ, List.set_cons_zero, List.set_cons_succ, List.length_cons, List.length_nil, List.map_cons, List.map_nil, List.cons_append, List.nil_append, List.replicate, Option.bind_some, Option.map_some, Option.bind_none, Option.map_none, Nat.reduceAdd, Nat.reduceSub, reduceIte, Bool.false_eq_true, if_false, if_true, List.getElem?_nil, List.replicate_succ, List.replicate_zero, Bool.not_true]
    · rw [decide_eq_false q, if_neg q]
      have s1 : sliceO (.lst (rs.map D.str)) none (some (pos w rs : Int)) = some (.lst ((rs.take (pos w rs)).map D.str)) := by
        simp only [sliceO]
        rw [cut_take _ (by rw [List.length_map]; exact hle), List.map_take]
      have s2 : sliceO (.lst (rs.map D.str)) (some (pos w rs : Int)) none = some (.lst ((rs.drop (pos w rs)).map D.str)) := by
        simp only [sliceO]
        rw [cut_drop _ (by rw [List.length_map]; exact hle), List.map_drop]
      have a1 : binO .add (.lst ((rs.take (pos w rs)).map D.str)) (.lst [.str w]) = some (.lst ((rs.take (pos w rs)).map D.str ++ [.str w])) := by
        simp only [binO]
        rw [if_pos]
        simp
        show _ ≤ 16777216
        omega
      have a2 : binO .add (.lst ((rs.take (pos w rs)).map D.str ++ [.str w])) (.lst ((rs.drop (pos w rs)).map D.str)) = some (.lst ((ins w rs).map D.str)) := by
        simp only [binO]
        rw [if_pos]
        · simp [ins]
        · simp
          show _ ≤ 16777216
          omega
      simp only [stepOf, cstepOf, runF, startE, eB, eS, eE, eEs, eEo, eTs, eI, R.bind, R.st, peek, peeks, Obj.data, truthR, truthO, asg, asgs, lstAt, asD, asDs, asD1, fresh, alloc, outO, outB, getO, ixO, cmpO, eqI, eqS, bnO, add_i, sub_i, augO, List.getElem?_cons_zero, List.getElem?_cons_succ, List.set_cons_zero, List.set_cons_succ, List.length_cons, List.length_nil, List.map_cons, List.map_nil, List.cons_append, List.nil_append, List.replicate, Option.bind_some, Option.map_some, Option.bind_none, Option.map_none, Nat.reduceAdd, Nat.reduceSub, reduceIte, Bool.false_eq_true, if_false, if_true, List.getElem?_nil, List.replicate_succ, List.replicate_zero, s1, s2, a1, a2, Bool.not_false]
  unfold plB
  rw [eB_cons q1, eB_cons q2, eB_cons q3]
  exact eB_nil
theorem insD_ok {w : T} {rs : List T} (h : rs.Pairwise (fun a b => ltT a b = true)) : (insD w rs).Pairwise (fun a b => ltT a b = true) := by
  unfold insD
  split
  · exact h
  · exact ins_sorted w rs h (by assumption)
theorem insD_mem (w v : T) (rs : List T) : v ∈ insD w rs ↔ v = w ∨ v ∈ rs := by
  unfold insD
  split
  · rename_i q
    exact ⟨.inr, fun h => h.elim (fun z => z ▸ q) id⟩
  · exact ins_mem w v rs
theorem insD_len (w : T) (rs : List T) : (insD w rs).length ≤ rs.length + 1 := by
  unfold insD
  split
  · omega
  · simp [ins]; omega
/-- the places as a dict -/
def plD : Nat → List T → List (T × D)
  | _, [] => []
  | n, w :: ws => (w, .int n) :: plD (n + 1) ws
theorem plD_fst : ∀ (n : Nat) (ws : List T), (plD n ws).map (·.1) = ws
  | _, [] => rfl
  | n, w :: ws => by simp [plD, plD_fst (n + 1) ws]
theorem plD_at : ∀ (n : Nat) (ws : List T) (w : T), w ∈ ws → ((plD n ws).find? fun p => decide (p.1 = w)).map (·.2) = some (.int ((n + ws.idxOf w : Nat) : Int))
  | _, [], _, h => by cases h
  | n, v :: ws, w, h => by
    rw [plD, List.find?_cons]
    by_cases q : v = w
    · subst q
      simp [List.idxOf_cons]
    · rw [decide_eq_false q]
      have hw : w ∈ ws := (List.mem_cons.mp h).resolve_left (fun z => q z.symm)
      have := plD_at (n + 1) ws w hw
      simp only at this ⊢
      rw [this, List.idxOf_cons]
      have q' : (v == w) = false := by simpa using q
      rw [q']
      simp
      omega
theorem enum_map : ∀ (n : Nat) (ws : List T), enumL n (ws.map D.str) = (plD n ws).map fun p => D.tup [p.2, .str p.1]
  | _, [] => rfl
  | n, w :: ws => by simp [enumL, plD, enum_map (n + 1) ws]
theorem pairs_strK : ∀ ps : List (T × D), pairsO (ps.map fun p => D.tup [.str p.1, p.2]) = some (strK ps)
  | [] => rfl
  | p :: ps => by
    simp only [List.map_cons, pairsO, pairs_strK ps, keyD, Option.isSome_some, if_true, Option.map_some]
    rfl
theorem places_ok {ws : List T} (hws : ∀ w ∈ ws, w ∈ words) (hl : ws.length ≤ 3) : ∃ rs : List T, F1 [.d (.lst (ws.map D.str))] [] = .ok (.d (.dct (strK (plD 0 rs)))) [] ∧ rs.Pairwise (fun a b => ltT a b = true) ∧ (∀ w ∈ ws, w ∈ rs) := by
  have hS : startE 4 [W.d (.lst (ws.map D.str))] = [some (.d (.lst (ws.map D.str))), none, none, none] := rfl
  have hB : b1 = [.asg (.nm 1) (.lst false []), .for_ (.nm 2) (.val (.var 0)) plB, .ret (.bn false .dict [(.comp false [2, 3] (.tup [(.nm 3), (.nm 2)]) (.enum (.var 1)) [] (.tup [(.var 2), (.var 3)]))])] := rfl
  have q1 : eS P1 (.asg (.nm 1) (.lst false [])) [some (.d (.lst (ws.map D.str))), none, none, none] [] = .ok .nx [some (.d (.lst (ws.map D.str))), some (.d (.lst (([] : List T).map D.str))), none, none] [] := by
    simp only [stepOf, cstepOf, runF, startE, eB, eS, eE, eEs, eEo, eTs, eI, R.bind, R.st, peek, peeks, Obj.data, truthR, truthO, asg, asgs, lstAt, asD, asDs, asD1, fresh, alloc, outO, outB, getO, ixO, cmpO, eqI, eqS, bnO, add_i, sub_i, augO, List.getElem?_cons_zero, List.getElem?_cons_succ, List.set_cons_zero, List.set_cons_succ, List.length_cons, List.length_nil, List.map_cons, List.map_nil, List.cons_append, List.nil_append, List.replicate, Option.bind_some, Option.map_some, Option.bind_none, Option.map_none, Nat.reduceAdd, Nat.reduceSub, reduceIte, Bool.false_eq_true, if_false, if_true, List.getElem?_nil, List.replicate_succ, List.replicate_zero]
  have q2 : eI P1 (.val (.var 0)) [some (.d (.lst (ws.map D.str))), some (.d (.lst (([] : List T).map D.str))), none, none] [] = .ok (ws.map D.str) [] := by
    simp only [stepOf, cstepOf, runF, startE, eB, eS, eE, eEs, eEo, eTs, eI, R.bind, R.st, peek, peeks, Obj.data, truthR, truthO, asg, asgs, lstAt, asD, asDs, asD1, fresh, alloc, outO, outB, getO, ixO, cmpO, eqI, eqS, bnO, add_i, sub_i, augO, List.getElem?_cons_zero, List.getElem?_cons_succ, List.set_cons_zero, List.set_cons_succ, List.length_cons, List.length_nil, List.map_cons, List.map_nil, List.cons_append, List.nil_append, List.replicate, Option.bind_some, Option.map_some, Option.bind_none, Option.map_none, Nat.reduceAdd, Nat.reduceSub, reduceIte, Bool.false_eq_true, if_false, if_true, List.getElem?_nil, List.replicate_succ, List.replicate_zero, itemsO]
  obtain ⟨ρ1, L1, e1, rs, s2, s3, rfl, rfl, h1, h2, h3, h4⟩ := forLoop_ix (step := stepOf P1 (.nm 2) plB) (I := fun k ρ L => ∃ rs s2 s3, ρ = [some (.d (.lst (ws.map D.str))), some (.d (.lst (rs.map D.str))), s2, s3] ∧ L = [] ∧ rs.Pairwise (fun a b => ltT a b = true) ∧ (∀ v ∈ rs, v ∈ words) ∧ rs.length ≤ k ∧ ∀ j, j < k → ∀ w, ws[j]? = some w → w ∈ rs) (ws.map D.str) 0 (fun j d hj ρ L hi => by
    obtain ⟨rs, s2, s3, rfl, rfl, h1, h2, h3, h4⟩ := hi
    rw [List.getElem?_map] at hj
    obtain ⟨w, hw, rfl⟩ := Option.map_eq_some_iff.mp hj
    have hww := hws w (List.mem_of_getElem? hw)
    have hj3 : j < ws.length := (List.getElem?_eq_some_iff.mp hw).1
    have e := pl_step (w := w) h2 hww (by omega) (s0 := some (.d (.lst (ws.map D.str)))) (s3 := s3)
    refine ⟨_, _, ?_, insD w rs, some (.d (.str w)), some (.d (.int (pos w rs : Int))), rfl, rfl, insD_ok h1, fun v hv => ?_, by have := insD_len w rs; omega, fun i hi v hv => ?_⟩
    · simp only [stepOf, asg, List.set_cons_succ, List.set_cons_zero]
      exact e
    · rcases (insD_mem w v rs).mp hv with rfl | hv
      · exact hww
      · exact h2 v hv
    · rw [insD_mem]
      by_cases q : i = j
      · subst q; rw [hw] at hv; cases hv; exact .inl rfl
      · exact .inr (h4 i (by omega) v hv)) (ρ := [some (.d (.lst (ws.map D.str))), some (.d (.lst (([] : List T).map D.str))), none, none]) (L := []) ⟨[], none, none, rfl, rfl, .nil, by simp, by simp, fun j hj => by omega⟩
  refine ⟨rs, runF_ok (ρ' := [some (.d (.lst (ws.map D.str))), some (.d (.lst (rs.map D.str))), s2, s3]) ?_, h1, fun w hw => ?_⟩
  · rw [hS, hB, eB_cons q1, eB_cons (for_ok q2 e1)]
    refine eB_last (ret_ok ?_)
    have q3 : eI P1 (.enum (.var 1)) [some (.d (.lst (ws.map D.str))), some (.d (.lst (rs.map D.str))), s2, s3] [] = .ok ((plD 0 rs).map fun p => D.tup [p.2, .str p.1]) [] := by
      simp only [stepOf, cstepOf, runF, startE, eB, eS, eE, eEs, eEo, eTs, eI, R.bind, R.st, peek, peeks, Obj.data, truthR, truthO, asg, asgs, lstAt, asD, asDs, asD1, fresh, alloc, outO, outB, getO, ixO, cmpO, eqI, eqS, bnO, add_i, sub_i, augO, List.getElem?_cons_zero, List.getElem?_cons_succ, List.set_cons_zero, List.set_cons_succ, List.length_cons, List.length_nil, List.map_cons, List.map_nil, List.cons_append, List.nil_append, List.replicate, Option.bind_some, Option.map_some, Option.bind_none, Option.map_none, Nat.reduceAdd, Nat.reduceSub, reduceIte, Bool.false_eq_true, if_false, if_true, List.getElem?_nil, List.replicate_succ, List.replicate_zero, enum_map]
    have hlen : (plD 0 rs).length = rs.length := by
      have := congrArg List.length (plD_fst 0 rs)
      rwa [List.length_map] at this
    rw [Nat.zero_add, List.length_map] at h3
    have q4 := comp_ok (P := P1) (own := [2, 3]) (tg := .tup [.nm 3, .nm 2]) (ifs := []) (elt := .tup [(.var 2), (.var 3)]) q3 (by rw [List.length_map, hlen]; show rs.length ≤ 16777216; omega) (compLoop_map (h := fun p : T × D => D.tup [.str p.1, p.2]) fun p hp => by
      simp only [stepOf, cstepOf, runF, startE, eB, eS, eE, eEs, eEo, eTs, eI, R.bind, R.st, peek, peeks, Obj.data, truthR, truthO, asg, asgs, lstAt, asD, asDs, asD1, fresh, alloc, outO, outB, getO, ixO, cmpO, eqI, eqS, bnO, add_i, sub_i, augO, List.getElem?_cons_zero, List.getElem?_cons_succ, List.set_cons_zero, List.set_cons_succ, List.length_cons, List.length_nil, List.map_cons, List.map_nil, List.cons_append, List.nil_append, List.replicate, Option.bind_some, Option.map_some, Option.bind_none, Option.map_none, Nat.reduceAdd, Nat.reduceSub, reduceIte, Bool.false_eq_true, if_false, if_true, List.getElem?_nil, List.replicate_succ, List.replicate_zero, wipeE])
    have hn : ((([] : List (T × D)) ++ plD 0 rs).map (·.1)).Nodup := by
      rw [List.nil_append, plD_fst]
      exact h1.imp fun {a b} hab z => by subst z; rw [ltT_irrefl] at hab; cases hab
    have hm := mergeK_new (plD 0 rs) [] hn
    have hm' : mergeD [] (strK (plD 0 rs)) = strK (plD 0 rs) := hm
    have hb : bnO .dict [.lst ((plD 0 rs).map fun p => D.tup [.str p.1, p.2])] = some (.dct (strK (plD 0 rs))) := by
      simp only [bnO, pairs_strK, Option.map_some, hm']
    rw [eE, eEs, q4]
    simp only [eEs, R.bind, peeks, peek, Option.bind_some, Option.map_some, hb, fresh, Bool.false_eq_true, if_false]
  · obtain ⟨j, hj⟩ := List.getElem?_of_mem hw
    exact h4 j (by have := (List.getElem?_eq_some_iff.mp hj).1; simpa using this) w hj
/-- the order of places is the order of words -/
theorem idx_le {rs : List T} (h : rs.Pairwise (fun a b => ltT a b = true)) {a b : T} (ha : a ∈ rs) (hb : b ∈ rs) : decide ((rs.idxOf a : Int) ≤ (rs.idxOf b : Int)) = !ltT b a := by
  have h1 := List.idxOf_lt_length_iff.mpr ha
  have h2 := List.idxOf_lt_length_iff.mpr hb
  have g1 : rs[rs.idxOf a] = a := List.getElem_idxOf h1
  have g2 : rs[rs.idxOf b] = b := List.getElem_idxOf h2
  have pw := List.pairwise_iff_getElem.mp h
  rcases Nat.lt_trichotomy (rs.idxOf a) (rs.idxOf b) with q | q | q
  · have := pw _ _ h1 h2 q
    rw [g1, g2] at this
    rw [ltT_asymm this, decide_eq_true (by omega)]
    rfl
  · have e : a = b := by rw [← g1, ← g2]; simp only [q]
    subst e
    rw [ltT_irrefl, decide_eq_true (by omega)]
    rfl
  · have := pw _ _ h2 h1 q
    rw [g1, g2] at this
    rw [this, decide_eq_false (by omega)]
    rfl
theorem adj_idx {rs : List T} (h : rs.Pairwise (fun a b => ltT a b = true)) : ∀ {r : List T}, (∀ w ∈ r, w ∈ rs) → adjI (r.map fun w => (rs.idxOf w : Int)) = adjLe r
  | [], _ => rfl
  | [x], _ => rfl
  | x :: y :: l, hr => by
    have ih := adj_idx h (r := y :: l) fun w hw => hr w (List.mem_cons_of_mem _ hw)
    simp only [List.map_cons] at ih ⊢
    rw [adjI_cons, ih, idx_le h (hr x (by simp)) (hr y (by simp))]
    simp [adjLe]
end K01

set_option maxRecDepth 100000
set_option maxHeartbeats 4000000
namespace K01
open EV
def num : T := [110, 117, 109, 98, 101, 114, 32]
theorem told_ok {v : D} (hv : okT v = true) {i : Int} (hi : countD (.int i) = true) : F11 [.d v, .d (.int i)] [] = .ok (.d (.bl (sortedMost v i))) [] := by
  have h := is_sorted_ok (P := P10) (Pa := P7) (Pb := P6) (Pc := P9) (Pd := P8) (kc := 7) (ks := 9) (ki := 6) (kn := 8) (x := 0) rfl rfl rfl rfl hv hi
  have hc := callR_dd (m := false) (L := []) h
  have f : P11.fn 10 = runF P10 2 (isSortedB 7 9 0) := rfl
  simp [F11, b11, stepOf, cstepOf, runF, startE, eB, eS, eE, eEs, eEo, eTs, eI, R.bind, R.st, peek, peeks, Obj.data, truthR, truthO, asg, asgs, lstAt, asD, asDs, asD1, fresh, alloc, outO, outB, getO, ixO, cmpO, eqI, eqS, bnO, add_i, sub_i, augO, List.getElem?_cons_zero, List.getElem?_cons_succ, List.set_cons_zero, List.set_cons_succ, List.length_cons, List.length_nil, List.map_cons, List.map_nil, List.cons_append, List.nil_append, List.replicate, Option.bind_some, Option.map_some, Option.bind_none, Option.map_none, Nat.reduceAdd, Nat.reduceSub, reduceIte, Bool.false_eq_true, if_false, if_true, List.getElem?_nil, List.replicate_succ, List.replicate_zero, f, hc]
theorem told_err {v m : D} (hm : (tyOf m).isSome = true) (hc0 : countD m = false) {t : T} (ht : reprO m = some t) (hl : t.length ≤ 1000) : F11 [.d v, .d m] [] = .ok (.d (.str (num ++ t))) [] := by
  obtain ⟨L, h⟩ := is_sorted_err (P := P10) (Pa := P7) (Pb := P6) (Pc := P9) (Pd := P8) (kc := 7) (ks := 9) (ki := 6) (kn := 8) (x := 0) rfl rfl rfl rfl (d := v) hm hc0
  have hc := callR_dd_err (m := false) (L := []) h
  have f : P11.fn 10 = runF P10 2 (isSortedB 7 9 0) := rfl
  have hs : P11.sub 0 0 = true := rfl
  have hH : eH (.plus (.con (.str [110, 117, 109, 98, 101, 114, 32])) (.rep .arg)) (some m) = some (.str (num ++ t)) := by
    simp only [eH, ht, Option.bind_some, Option.map_some]
    rw [if_pos]
    · rfl
    · show 7 + t.length ≤ 16777216
      omega
  simp [F11, b11, stepOf, cstepOf, runF, startE, eB, eS, eE, eEs, eEo, eTs, eI, R.bind, R.st, peek, peeks, Obj.data, truthR, truthO, asg, asgs, lstAt, asD, asDs, asD1, fresh, alloc, outO, outB, getO, ixO, cmpO, eqI, eqS, bnO, add_i, sub_i, augO, List.getElem?_cons_zero, List.getElem?_cons_succ, List.set_cons_zero, List.set_cons_succ, List.length_cons, List.length_nil, List.map_cons, List.map_nil, List.cons_append, List.nil_append, List.replicate, Option.bind_some, Option.map_some, Option.bind_none, Option.map_none, Nat.reduceAdd, Nat.reduceSub, reduceIte, Bool.false_eq_true, if_false, if_true, List.getElem?_nil, List.replicate_succ, List.replicate_zero, f, hc, hs, hH]
abbrev En := List (Option W)
def envA (s0 : Option W) (ws : List T) (pl : List (D × D)) (s3 s4 s5 s6 s7 s8 s9 s10 s11 : Option W) : Env := [s0, some (.d (.lst (ws.map D.str))), some (.d (.dct pl)), s3, s4, s5, s6, s7, s8, s9, s10, s11]
theorem repr_bl (b : Bool) : ∃ t, reprO (.bl b) = some t := by
  cases b
  · exact ⟨[70, 97, 108, 115, 101], by decide +kernel⟩
  · exact ⟨[84, 114, 117, 101], by decide +kernel⟩
def limB : List IS := [.ifs (.cmp .ne (.bn false .repr [(.call false 11 [(.var 3), (.var 4)])]) (.bn false .repr [(.and (.var 6) (.cmp .le (.bn false .len [(.var 3)]) (.var 4)))])) [
        .ret (.con (.bl false))] []]
theorem nameDs (r : List T) : (r.map D.str).all nameD = r.all isName := by
  rw [List.all_map]
  rfl
theorem sorted_row (r : List T) : sortedD (.tup (r.map D.str)) = (adjLe r && r.all isName) := by
  simp only [sortedD, tupNames, nameDs, strs_str]
  cases r.all isName <;> simp
theorem okT_row {r : List T} (hr : ∀ w ∈ r, w ∈ words) (hl : r.length ≤ 4) : okT (.tup (r.map D.str)) = true := by
  simp only [okT, Bool.and_eq_true, List.all_eq_true, decide_eq_true_eq, List.length_map]
  refine ⟨fun d hd => ?_, by omega⟩
  obtain ⟨w, hw, rfl⟩ := List.mem_map.mp hd
  have := words_short w (hr w hw)
  simp [okD]
  omega
theorem lim_step {r : List T} (hr : ∀ w ∈ r, w ∈ words) (hl : r.length ≤ 4) {i : Nat} (hi : i < 6) {s0 s1 s2 s5 s7 s8 s9 s10 s11 : Option W} {L : List Obj} :
    eB P13 limB [s0, s1, s2, some (.d (.tup (r.map D.str))), some (.d (.int (i : Int))), s5, some (.d (.bl (adjLe r && r.all isName))), s7, s8, s9, s10, s11] L = .ok .nx [s0, s1, s2, some (.d (.tup (r.map D.str))), some (.d (.int (i : Int))), s5, some (.d (.bl (adjLe r && r.all isName))), s7, s8, s9, s10, s11] L := by
  have hc0 : countD (.int (i : Int)) = true := by
    have h6 : (i : Int) < 6 := by omega
    rw [countD_int, decide_eq_true (Int.natCast_nonneg i), decide_eq_true (Int.lt_trans h6 (by decide))]
    rfl
  have h := told_ok (okT_row hr hl) hc0
  have hc := callR_dd (m := false) (L := L) h
  have f : P13.fn 11 = F11 := rfl
  have hsm : sortedMost (.tup (r.map D.str)) (i : Int) = (adjLe r && r.all isName && decide ((r.length : Int) ≤ (i : Int))) := by
    simp only [sortedMost, sorted_row, List.length_map]
  rw [hsm] at hc
  obtain ⟨t, ht⟩ := repr_bl (adjLe r && r.all isName && decide ((r.length : Int) ≤ (i : Int)))
  have e1 : eE P13 (.bn false .repr [(.call false 11 [(.var 3), (.var 4)])]) [s0, s1, s2, some (.d (.tup (r.map D.str))), some (.d (.int (i : Int))), s5, some (.d (.bl (adjLe r && r.all isName))), s7, s8, s9, s10, s11] L = .ok (.d (.str t)) L := by
    exact bn1 (call2 (var_ok rfl) (var_ok rfl) hc) rfl (by rw [bnO, ht]; rfl)
  have e2 : eE P13 (.and (.var 6) (.cmp .le (.bn false .len [(.var 3)]) (.var 4))) [s0, s1, s2, some (.d (.tup (r.map D.str))), some (.d (.int (i : Int))), s5, some (.d (.bl (adjLe r && r.all isName))), s7, s8, s9, s10, s11] L = .ok (.d (.bl (adjLe r && r.all isName && decide ((r.length : Int) ≤ (i : Int))))) L := by
    rw [and_bl (c := adjLe r && r.all isName) (L1 := L) (by simp only [stepOf, cstepOf, runF, startE, eB, eS, eE, eEs, eEo, eTs, eI, R.bind, R.st, peek, peeks, Obj.data, truthR, truthO, asg, asgs, lstAt, asD, asDs, asD1, fresh, alloc, outO, outB, getO, ixO, cmpO, eqI, eqS, bnO, add_i, sub_i, augO, List.getElem?_cons_zero, List.getElem?_cons_succ, List.set_cons_zero, List.set_cons_succ, List.length_cons, List.length_nil, List.map_cons, List.map_nil, List.cons_append, List.nil_append, List.replicate, Option.bind_some, Option.map_some, Option.bind_none, Option.map_none, Nat.reduceAdd, Nat.reduceSub, reduceIte, Bool.false_eq_true, if_false, if_true, List.getElem?_nil, List.replicate_succ, List.replicate_zero])]
    cases q : (adjLe r && r.all isName) with
    | true => simp only [stepOf, cstepOf, runF, startE, eB, eS, eE, eEs, eEo, eTs, eI, R.bind, R.st, peek, peeks, Obj.data, truthR, truthO, asg, asgs, lstAt, asD, asDs, asD1, fresh, alloc, outO, outB, getO, ixO, cmpO, eqI, eqS, bnO, add_i, sub_i, augO, List.getElem?_cons_zero, List.getElem?_cons_succ, List.set_cons_zero, List.set_cons_succ, List.length_cons, List.length_nil, List.map_cons, List.map_nil, List.cons_append, List.nil_append, List.replicate, Option.bind_some, Option.map_some, Option.bind_none, Option.map_none, Nat.reduceAdd, Nat.reduceSub, reduceIte, Bool.false_eq_true, if_false, if_true, List.getElem?_nil, List.replicate_succ, List.replicate_zero, Bool.true_and, List.length_map]
    | false => simp
  have e3 : eE P13 (.bn false .repr [(.and (.var 6) (.cmp .le (.bn false .len [(.var 3)]) (.var 4)))]) [s0, s1, s2, some (.d (.tup (r.map D.str))), some (.d (.int (i : Int))), s5, some (.d (.bl (adjLe r && r.all isName))), s7, s8, s9, s10, s11] L = .ok (.d (.str t)) L := by
    exact bn1 e2 rfl (by rw [bnO, ht]; rfl)
  have e4 : eE P13 (.cmp .ne (.bn false .repr [(.call false 11 [(.var 3), (.var 4)])]) (.bn false .repr [(.and (.var 6) (.cmp .le (.bn false .len [(.var 3)]) (.var 4)))])) [s0, s1, s2, some (.d (.tup (r.map D.str))), some (.d (.int (i : Int))), s5, some (.d (.bl (adjLe r && r.all isName))), s7, s8, s9, s10, s11] L = .ok (.d (.bl false)) L := by
    exact ne_same e1 e3
  unfold limB
  rw [eB_cons (ρ' := [s0, s1, s2, some (.d (.tup (r.map D.str))), some (.d (.int (i : Int))), s5, some (.d (.bl (adjLe r && r.all isName))), s7, s8, s9, s10, s11]) (L' := L) (ifs_skip e4)]
  exact eB_nil
theorem lims_ok {r : List T} (hr : ∀ w ∈ r, w ∈ words) (hl : r.length ≤ 4) {s0 s1 s2 s4 s5 s7 s8 s9 s10 s11 : Option W} {L : List Obj} :
    ∃ s4', eS P13 (.for_ (.nm 4) (.rng1 (.con (.int 6))) limB) [s0, s1, s2, some (.d (.tup (r.map D.str))), s4, s5, some (.d (.bl (adjLe r && r.all isName))), s7, s8, s9, s10, s11] L = .ok .nx [s0, s1, s2, some (.d (.tup (r.map D.str))), s4', s5, some (.d (.bl (adjLe r && r.all isName))), s7, s8, s9, s10, s11] L := by
  have q1 : eI P13 (.rng1 (.con (.int 6))) [s0, s1, s2, some (.d (.tup (r.map D.str))), s4, s5, some (.d (.bl (adjLe r && r.all isName))), s7, s8, s9, s10, s11] L = .ok ((List.range 6).map fun (k : Nat) => D.int (k : Int)) L := rng1_ok (by simp only [stepOf, cstepOf, runF, startE, eB, eS, eE, eEs, eEo, eTs, eI, R.bind, R.st, peek, peeks, Obj.data, truthR, truthO, asg, asgs, lstAt, asD, asDs, asD1, fresh, alloc, outO, outB, getO, ixO, cmpO, eqI, eqS, bnO, add_i, sub_i, augO, List.getElem?_cons_zero, List.getElem?_cons_succ, List.set_cons_zero, List.set_cons_succ, List.length_cons, List.length_nil, List.map_cons, List.map_nil, List.cons_append, List.nil_append, List.replicate, Option.bind_some, Option.map_some, Option.bind_none, Option.map_none, Nat.reduceAdd, Nat.reduceSub, reduceIte, Bool.false_eq_true, if_false, if_true, List.getElem?_nil, List.replicate_succ, List.replicate_zero]; rfl) (rng_ok (n := 6) (by decide))
  obtain ⟨ρ1, L1, e1, s4', rfl, rfl⟩ := forLoop_all (step := stepOf P13 (.nm 4) limB) (I := fun ρ L' => ∃ s4', ρ = [s0, s1, s2, some (.d (.tup (r.map D.str))), s4', s5, some (.d (.bl (adjLe r && r.all isName))), s7, s8, s9, s10, s11] ∧ L' = L) (ds := (List.range 6).map fun (k : Nat) => D.int (k : Int)) (fun d hd ρ L' hi => by
    obtain ⟨s4', rfl, rfl⟩ := hi
    obtain ⟨i, hi6, rfl⟩ := List.mem_map.mp hd
    have hi6' : i < 6 := by simpa using hi6
    refine ⟨_, _, ?_, some (.d (.int (i : Int))), rfl, rfl⟩
    simp only [stepOf, asg, List.set_cons_succ, List.set_cons_zero]
    exact lim_step hr hl hi6') (ρ := [s0, s1, s2, some (.d (.tup (r.map D.str))), s4, s5, some (.d (.bl (adjLe r && r.all isName))), s7, s8, s9, s10, s11]) (L := L) ⟨s4, rfl, rfl⟩
  exact ⟨s4', for_ok q1 e1⟩
def rowB : List IS := [
    .asg (.nm 5) (.comp false [11] (.nm 11) (.val (.var 3)) [] (.idx (.var 2) (.var 11))),
    .asg (.nm 6) (.and (.cmp .eq (.var 5) (.bn false .sorted [(.var 5)])) (.cmp .eq (.comp false [11] (.nm 11) (.val (.var 3)) [(.not (.call false 12 [(.var 11)]))] (.var 11)) (.lst false []))),
    .for_ (.nm 4) (.rng1 (.con (.int 6))) limB]
theorem eqvs_nil (l : List T) : eqvs (l.map D.str) [] = l.isEmpty := by cases l <;> rfl
theorem row_step {ws rs r : List T} (hrs : rs.Pairwise (fun a b => ltT a b = true)) (hws : ∀ w ∈ ws, w ∈ words) (hin : ∀ w ∈ ws, w ∈ rs) (hr : ∀ w ∈ r, w ∈ ws) (hl : r.length ≤ 4) {s0 s4 s5 s6 s7 s8 s9 s10 : Option W} {L : List Obj} :
    ∃ s4' s5' s6', eB P13 rowB [s0, some (.d (.lst (ws.map D.str))), some (.d (.dct (strK (plD 0 rs)))), some (.d (.tup (r.map D.str))), s4, s5, s6, s7, s8, s9, s10, none] L = .ok .nx [s0, some (.d (.lst (ws.map D.str))), some (.d (.dct (strK (plD 0 rs)))), some (.d (.tup (r.map D.str))), s4', s5', s6', s7, s8, s9, s10, none] L := by
  have hrw : ∀ w ∈ r, w ∈ words := fun w hw => hws w (hr w hw)
  have hrr : ∀ w ∈ r, w ∈ rs := fun w hw => hin w (hr w hw)
  have q1 : eI P13 (.val (.var 3)) [s0, some (.d (.lst (ws.map D.str))), some (.d (.dct (strK (plD 0 rs)))), some (.d (.tup (r.map D.str))), s4, s5, s6, s7, s8, s9, s10, none] L = .ok (r.map D.str) L := by
    simp only [stepOf, cstepOf, runF, startE, eB, eS, eE, eEs, eEo, eTs, eI, R.bind, R.st, peek, peeks, Obj.data, truthR, truthO, asg, asgs, lstAt, asD, asDs, asD1, fresh, alloc, outO, outB, getO, ixO, cmpO, eqI, eqS, bnO, add_i, sub_i, augO, List.getElem?_cons_zero, List.getElem?_cons_succ, List.set_cons_zero, List.set_cons_succ, List.length_cons, List.length_nil, List.map_cons, List.map_nil, List.cons_append, List.nil_append, List.replicate, Option.bind_some, Option.map_some, Option.bind_none, Option.map_none, Nat.reduceAdd, Nat.reduceSub, reduceIte, Bool.false_eq_true, if_false, if_true, List.getElem?_nil, List.replicate_succ, List.replicate_zero, itemsO]
  have hz : (r.map D.str).length ≤ SZ := by rw [List.length_map]; show r.length ≤ 16777216; omega
  have q2 := comp_ok (P := P13) (own := [11]) (tg := .nm 11) (ifs := []) (elt := .idx (.var 2) (.var 11)) (rs := (r.map fun w => (rs.idxOf w : Int)).map D.int) q1 hz (by
    rw [List.map_map]
    exact compLoop_map (h := (D.int ∘ fun w => (rs.idxOf w : Int))) fun w hw => by
      have hg : getO (.dct (strK (plD 0 rs))) (.str w) = some (.int (rs.idxOf w : Int)) := by
        have := plD_at 0 rs w (hrr w hw)
        rw [Nat.zero_add] at this
        simp only [getO, keyD, Option.isSome_some, if_true]
        rw [atK]
        exact this
      simp only [cstepOf, asg, wipeE, List.set_cons_succ, List.set_cons_zero, eTs, R.bind, if_true, eE, List.getElem?_cons_zero, List.getElem?_cons_succ, peek, hg, EV.outO, asD1, asD, Function.comp])
  have a1 := asg_ok (i := 5) q2
  rw [show ([s0, some (.d (.lst (ws.map D.str))), some (.d (.dct (strK (plD 0 rs)))), some (.d (.tup (r.map D.str))), s4, s5, s6, s7, s8, s9, s10, none] : Env).set 5 (some (.d (.lst ((r.map fun w => (rs.idxOf w : Int)).map D.int)))) = [s0, some (.d (.lst (ws.map D.str))), some (.d (.dct (strK (plD 0 rs)))), some (.d (.tup (r.map D.str))), s4, some (.d (.lst ((r.map fun w => (rs.idxOf w : Int)).map D.int))), s6, s7, s8, s9, s10, none] from rfl] at a1
  generalize hns : r.map (fun w => (rs.idxOf w : Int)) = ns at *
  have hadj : adjI ns = adjLe r := by rw [← hns]; exact adj_idx hrs hrr
  have c1 : eE P13 (.cmp .eq (.var 5) (.bn false .sorted [(.var 5)])) [s0, some (.d (.lst (ws.map D.str))), some (.d (.dct (strK (plD 0 rs)))), some (.d (.tup (r.map D.str))), s4, some (.d (.lst (ns.map D.int))), s6, s7, s8, s9, s10, none] L = .ok (.d (.bl (adjLe r))) L := by
    simp only [stepOf, cstepOf, runF, startE, eB, eS, eE, eEs, eEo, eTs, eI, R.bind, R.st, peek, peeks, Obj.data, truthR, truthO, asg, asgs, lstAt, asD, asDs, asD1, fresh, alloc, outO, outB, getO, ixO, cmpO, eqI, eqS, bnO, add_i, sub_i, augO, List.getElem?_cons_zero, List.getElem?_cons_succ, List.set_cons_zero, List.set_cons_succ, List.length_cons, List.length_nil, List.map_cons, List.map_nil, List.cons_append, List.nil_append, List.replicate, Option.bind_some, Option.map_some, Option.bind_none, Option.map_none, Nat.reduceAdd, Nat.reduceSub, reduceIte, Bool.false_eq_true, if_false, if_true, List.getElem?_nil, List.replicate_succ, List.replicate_zero, ints_int, eq_ints, adjI_iff, hadj]
  have q3 : eI P13 (.val (.var 3)) [s0, some (.d (.lst (ws.map D.str))), some (.d (.dct (strK (plD 0 rs)))), some (.d (.tup (r.map D.str))), s4, some (.d (.lst (ns.map D.int))), s6, s7, s8, s9, s10, none] L = .ok (r.map D.str) L := by
    simp only [stepOf, cstepOf, runF, startE, eB, eS, eE, eEs, eEo, eTs, eI, R.bind, R.st, peek, peeks, Obj.data, truthR, truthO, asg, asgs, lstAt, asD, asDs, asD1, fresh, alloc, outO, outB, getO, ixO, cmpO, eqI, eqS, bnO, add_i, sub_i, augO, List.getElem?_cons_zero, List.getElem?_cons_succ, List.set_cons_zero, List.set_cons_succ, List.length_cons, List.length_nil, List.map_cons, List.map_nil, List.cons_append, List.nil_append, List.replicate, Option.bind_some, Option.map_some, Option.bind_none, Option.map_none, Nat.reduceAdd, Nat.reduceSub, reduceIte, Bool.false_eq_true, if_false, if_true, List.getElem?_nil, List.replicate_succ, List.replicate_zero, itemsO]
  have q4 := comp_ok (P := P13) (own := [11]) (tg := .nm 11) (ifs := [(.not (.call false 12 [(.var 11)]))]) (elt := .var 11) q3 hz (compLoop_pure (f := fun d => if nameD d then none else some d) fun d hd => by
    obtain ⟨w, hw, rfl⟩ := List.mem_map.mp hd
    have hc := callR_d (m := false) (L := L) (lname (hrw w hw))
    have f : P13.fn 12 = F12 := rfl
    cases q : isName w with
    | true =>
      rw [q] at hc
      simp only [cstepOf, asg, wipeE, List.set_cons_succ, List.set_cons_zero, eTs, eE, eEs, List.getElem?_cons_zero, List.getElem?_cons_succ, R.bind, f, hc, truthR, peek, truthO, Option.bind_some, Bool.not_true, Bool.false_eq_true, if_false, nameD, q, if_true]
    | false =>
      rw [q] at hc
      simp only [cstepOf, asg, wipeE, List.set_cons_succ, List.set_cons_zero, eTs, eE, eEs, List.getElem?_cons_zero, List.getElem?_cons_succ, R.bind, f, hc, truthR, peek, truthO, Option.bind_some, Bool.not_false, Bool.false_eq_true, if_false, nameD, q, if_true, asD1, asD])
  have hfm : (r.map D.str).filterMap (fun d => if nameD d then none else some d) = (r.filter fun w => !isName w).map D.str := by
    clear hr hl hrw hrr q1 hz q2 a1 hns hadj c1 q3 q4
    induction r with
    | nil => rfl
    | cons w r ih =>
      rw [List.map_cons, List.filterMap_cons]
      have hn : nameD (.str w) = isName w := rfl
      rw [hn, ih, List.filter_cons]
      cases isName w <;> simp
  rw [hfm] at q4
  have hemp : (r.filter fun w => !isName w).isEmpty = r.all isName := by
    clear hr hl hrw hrr q1 hz q2 a1 hns hadj c1 q3 q4 hfm
    induction r with
    | nil => rfl
    | cons w r ih =>
      rw [List.filter_cons, List.all_cons]
      cases isName w <;> simp [ih]
  have c2 : eE P13 (.cmp .eq (.comp false [11] (.nm 11) (.val (.var 3)) [(.not (.call false 12 [(.var 11)]))] (.var 11)) (.lst false [])) [s0, some (.d (.lst (ws.map D.str))), some (.d (.dct (strK (plD 0 rs)))), some (.d (.tup (r.map D.str))), s4, some (.d (.lst (ns.map D.int))), s6, s7, s8, s9, s10, none] L = .ok (.d (.bl (r.all isName))) L := by
    rw [eE, q4]
    have he : eqO (.lst ((r.filter fun w => !isName w).map D.str)) (.lst []) = some (r.all isName) := by
      have hp : plains ((r.filter fun w => !isName w).map D.str) = true := plain_strs fun w hw => words_plain w (hrw w (List.mem_filter.mp hw).1)
      simp only [eqO, D.plain, hp, D.deep, deep_strs, D.eqv, eqvs_nil, hemp]
      rfl
    simp only [R.bind, eE, eEs, asDs, fresh, Bool.false_eq_true, if_false, peek, cmpO, he, EV.outB]
  have c3 : eE P13 (.and (.cmp .eq (.var 5) (.bn false .sorted [(.var 5)])) (.cmp .eq (.comp false [11] (.nm 11) (.val (.var 3)) [(.not (.call false 12 [(.var 11)]))] (.var 11)) (.lst false []))) [s0, some (.d (.lst (ws.map D.str))), some (.d (.dct (strK (plD 0 rs)))), some (.d (.tup (r.map D.str))), s4, some (.d (.lst (ns.map D.int))), s6, s7, s8, s9, s10, none] L = .ok (.d (.bl (adjLe r && r.all isName))) L := by
    rw [and_bl c1]
    cases q : adjLe r with
    | true => rw [if_pos rfl, c2]; simp
    | false => simp
  have a2 := asg_ok (i := 6) c3
  rw [show ([s0, some (.d (.lst (ws.map D.str))), some (.d (.dct (strK (plD 0 rs)))), some (.d (.tup (r.map D.str))), s4, some (.d (.lst (ns.map D.int))), s6, s7, s8, s9, s10, none] : Env).set 6 (some (.d (.bl (adjLe r && r.all isName)))) = [s0, some (.d (.lst (ws.map D.str))), some (.d (.dct (strK (plD 0 rs)))), some (.d (.tup (r.map D.str))), s4, some (.d (.lst (ns.map D.int))), some (.d (.bl (adjLe r && r.all isName))), s7, s8, s9, s10, none] from rfl] at a2
  obtain ⟨s4', e3⟩ := lims_ok hrw hl (s0 := s0) (s1 := some (.d (.lst (ws.map D.str)))) (s2 := some (.d (.dct (strK (plD 0 rs))))) (s4 := s4) (s5 := some (.d (.lst (ns.map D.int)))) (s7 := s7) (s8 := s8) (s9 := s9) (s10 := s10) (s11 := none) (L := L)
  refine ⟨s4', some (.d (.lst (ns.map D.int))), some (.d (.bl (adjLe r && r.all isName))), ?_⟩
  unfold rowB
  rw [eB_cons a1, eB_cons a2, eB_cons e3]
  exact eB_nil
end K01

set_option maxRecDepth 100000
set_option maxHeartbeats 4000000
namespace K01
open EV
def vals : List D := [.tup [], .tup [.str [97], .str [98], .str [98]], .tup [.str [98], .str [97]], .non, .lst [.str [97]], .str [97, 98], .dct [(.str [97], .str [98])], .tup [.str [97], .int 7], .tup [.tup [.str [97]]], .int 7]
def goods : D := .lst [.tup [], .tup [.str [97], .str [98], .str [98]]]
def bads : List D := [.int (-1), .bl true, .bl false, .non, .str [51], .tup [.int 3], .int 1000000000000000000000000000000000000000000000000000000000000, .int (-100000000000000000000000000000000000000000000000000000000000)]
theorem repr_some {d : D} {t : T} (h : reprO d = some t) : bnO .repr [d] = some (.str t) := by simp only [bnO, h, Option.map_some]
theorem vals_ok : (vals.all okT) = true := by decide +kernel
def badOk (m : D) : Bool := !countD m && (tyOf m).isSome && (match reprO m with
  | some t => decide (t.length ≤ 1000) && (reprO (.str (num ++ t))).isSome
  | none => false)
theorem bads_ok : (bads.all badOk) = true := by decide +kernel
theorem good_in : ∀ v ∈ vals, ∃ b, inO v goods = some b ∧ ∀ i : Int, 3 ≤ i → sortedMost v i = b := by
  have e0 : sortedD (.tup []) = true := rfl
  have e1 : sortedD (.tup [.str [97], .str [98], .str [98]]) = true := rfl
  intro v hv
  simp only [vals, List.mem_cons, List.not_mem_nil, or_false] at hv
  rcases hv with rfl | rfl | rfl | rfl | rfl | rfl | rfl | rfl | rfl | rfl
  · exact ⟨true, rfl, fun i hi => by simp only [sortedMost, e0, List.length_nil, Bool.true_and]; exact decide_eq_true (by omega)⟩
  · exact ⟨true, rfl, fun i hi => by simp only [sortedMost, e1, List.length_cons, List.length_nil, Bool.true_and]; exact decide_eq_true (by omega)⟩
  all_goals exact ⟨false, rfl, fun i hi => rfl⟩
def letE : IE := .and (.bn false (.isin 1) [(.var 4)]) (.and (.not (.bn false (.isin 2) [(.var 4)])) (.chain .le .lt (.con (.int 0)) (.var 4) (.bin .pow (.con (.int 10)) (.con (.int 60)))))
theorem p60 : binO .pow (.int 10) (.int 60) = some (.int LIM) := rfl
theorem let_ok {s0 s1 s2 s3 s5 s6 s7 s8 s9 s10 s11 : Option W} {m : D} (hm : (tyOf m).isSome = true) {L : List Obj} : eE P13 letE [s0, s1, s2, s3, some (.d m), s5, s6, s7, s8, s9, s10, s11] L = .ok (.d (.bl (countD m))) L := by
  cases m with
  | int i =>
    have h1 : isO 1 (.int i) = some true := rfl
    have h2 : isO 2 (.int i) = some false := rfl
    rw [countD_int]
    by_cases a : 0 ≤ i
    · simp [letE, stepOf, cstepOf, runF, startE, eB, eS, eE, eEs, eEo, eTs, eI, R.bind, R.st, peek, peeks, Obj.data, truthR, truthO, asg, asgs, lstAt, asD, asDs, asD1, fresh, alloc, outO, outB, getO, ixO, cmpO, eqI, eqS, bnO, add_i, sub_i, augO, List.getElem?_cons_zero, List.getElem?_cons_succ, List.set_cons_zero, List.set_cons_succ, List.length_cons, List.length_nil, List.map_cons, List.map_nil, List.cons_append, List.nil_append, List.replicate, Option.bind_some, Option.map_some, Option.bind_none, Option.map_none, Nat.reduceAdd, Nat.reduceSub, reduceIte, Bool.false_eq_true, if_false, if_true, List.getElem?_nil, List.replicate_succ, List.replicate_zero, h1, h2, a, p60]
    · simp [letE, stepOf, cstepOf, runF, startE, eB, eS, eE, eEs, eEo, eTs, eI, R.bind, R.st, peek, peeks, Obj.data, truthR, truthO, asg, asgs, lstAt, asD, asDs, asD1, fresh, alloc, outO, outB, getO, ixO, cmpO, eqI, eqS, bnO, add_i, sub_i, augO, List.getElem?_cons_zero, List.getElem?_cons_succ, List.set_cons_zero, List.set_cons_succ, List.length_cons, List.length_nil, List.map_cons, List.map_nil, List.cons_append, List.nil_append, List.replicate, Option.bind_some, Option.map_some, Option.bind_none, Option.map_none, Nat.reduceAdd, Nat.reduceSub, reduceIte, Bool.false_eq_true, if_false, if_true, List.getElem?_nil, List.replicate_succ, List.replicate_zero, h1, h2, a, p60]
  | bl b => simp [letE, stepOf, cstepOf, runF, startE, eB, eS, eE, eEs, eEo, eTs, eI, R.bind, R.st, peek, peeks, Obj.data, truthR, truthO, asg, asgs, lstAt, asD, asDs, asD1, fresh, alloc, outO, outB, getO, ixO, cmpO, eqI, eqS, bnO, add_i, sub_i, augO, List.getElem?_cons_zero, List.getElem?_cons_succ, List.set_cons_zero, List.set_cons_succ, List.length_cons, List.length_nil, List.map_cons, List.map_nil, List.cons_append, List.nil_append, List.replicate, Option.bind_some, Option.map_some, Option.bind_none, Option.map_none, Nat.reduceAdd, Nat.reduceSub, reduceIte, Bool.false_eq_true, if_false, if_true, List.getElem?_nil, List.replicate_succ, List.replicate_zero, show isO 1 (.bl b) = some true from rfl, show isO 2 (.bl b) = some true from rfl, countD]
  | str s => simp [letE, stepOf, cstepOf, runF, startE, eB, eS, eE, eEs, eEo, eTs, eI, R.bind, R.st, peek, peeks, Obj.data, truthR, truthO, asg, asgs, lstAt, asD, asDs, asD1, fresh, alloc, outO, outB, getO, ixO, cmpO, eqI, eqS, bnO, add_i, sub_i, augO, List.getElem?_cons_zero, List.getElem?_cons_succ, List.set_cons_zero, List.set_cons_succ, List.length_cons, List.length_nil, List.map_cons, List.map_nil, List.cons_append, List.nil_append, List.replicate, Option.bind_some, Option.map_some, Option.bind_none, Option.map_none, Nat.reduceAdd, Nat.reduceSub, reduceIte, Bool.false_eq_true, if_false, if_true, List.getElem?_nil, List.replicate_succ, List.replicate_zero, show isO 1 (.str s) = some false from rfl, countD]
  | non => simp [letE, stepOf, cstepOf, runF, startE, eB, eS, eE, eEs, eEo, eTs, eI, R.bind, R.st, peek, peeks, Obj.data, truthR, truthO, asg, asgs, lstAt, asD, asDs, asD1, fresh, alloc, outO, outB, getO, ixO, cmpO, eqI, eqS, bnO, add_i, sub_i, augO, List.getElem?_cons_zero, List.getElem?_cons_succ, List.set_cons_zero, List.set_cons_succ, List.length_cons, List.length_nil, List.map_cons, List.map_nil, List.cons_append, List.nil_append, List.replicate, Option.bind_some, Option.map_some, Option.bind_none, Option.map_none, Nat.reduceAdd, Nat.reduceSub, reduceIte, Bool.false_eq_true, if_false, if_true, List.getElem?_nil, List.replicate_succ, List.replicate_zero, show isO 1 .non = some false from rfl, countD]
  | tup s => simp [letE, stepOf, cstepOf, runF, startE, eB, eS, eE, eEs, eEo, eTs, eI, R.bind, R.st, peek, peeks, Obj.data, truthR, truthO, asg, asgs, lstAt, asD, asDs, asD1, fresh, alloc, outO, outB, getO, ixO, cmpO, eqI, eqS, bnO, add_i, sub_i, augO, List.getElem?_cons_zero, List.getElem?_cons_succ, List.set_cons_zero, List.set_cons_succ, List.length_cons, List.length_nil, List.map_cons, List.map_nil, List.cons_append, List.nil_append, List.replicate, Option.bind_some, Option.map_some, Option.bind_none, Option.map_none, Nat.reduceAdd, Nat.reduceSub, reduceIte, Bool.false_eq_true, if_false, if_true, List.getElem?_nil, List.replicate_succ, List.replicate_zero, show isO 1 (.tup s) = some false from rfl, countD]
  | lst s => simp [letE, stepOf, cstepOf, runF, startE, eB, eS, eE, eEs, eEo, eTs, eI, R.bind, R.st, peek, peeks, Obj.data, truthR, truthO, asg, asgs, lstAt, asD, asDs, asD1, fresh, alloc, outO, outB, getO, ixO, cmpO, eqI, eqS, bnO, add_i, sub_i, augO, List.getElem?_cons_zero, List.getElem?_cons_succ, List.set_cons_zero, List.set_cons_succ, List.length_cons, List.length_nil, List.map_cons, List.map_nil, List.cons_append, List.nil_append, List.replicate, Option.bind_some, Option.map_some, Option.bind_none, Option.map_none, Nat.reduceAdd, Nat.reduceSub, reduceIte, Bool.false_eq_true, if_false, if_true, List.getElem?_nil, List.replicate_succ, List.replicate_zero, show isO 1 (.lst s) = some false from rfl, countD]
  | dct s => simp [letE, stepOf, cstepOf, runF, startE, eB, eS, eE, eEs, eEo, eTs, eI, R.bind, R.st, peek, peeks, Obj.data, truthR, truthO, asg, asgs, lstAt, asD, asDs, asD1, fresh, alloc, outO, outB, getO, ixO, cmpO, eqI, eqS, bnO, add_i, sub_i, augO, List.getElem?_cons_zero, List.getElem?_cons_succ, List.set_cons_zero, List.set_cons_succ, List.length_cons, List.length_nil, List.map_cons, List.map_nil, List.cons_append, List.nil_append, List.replicate, Option.bind_some, Option.map_some, Option.bind_none, Option.map_none, Nat.reduceAdd, Nat.reduceSub, reduceIte, Bool.false_eq_true, if_false, if_true, List.getElem?_nil, List.replicate_succ, List.replicate_zero, show isO 1 (.dct s) = some false from rfl, countD]
  | _ => simp [tyOf] at hm
def dueE : IE := .ite (.var 7) (.cmp .in_ (.var 8) (.lst false [(.tup []), (.tup [(.con (.str [97])), (.con (.str [98])), (.con (.str [98]))])])) (.bin .add (.con (.str [110, 117, 109, 98, 101, 114, 32])) (.bn false .repr [(.var 4)]))
def cmpB : IS := .ifs (.cmp .ne (.bn false .repr [(.call false 11 [(.var 8), (.var 4)])]) (.bn false .repr [(.var 10)])) [
        .ret (.con (.bl false))] []
def valB : List IS := [.asg (.nm 10) dueE, cmpB]
/-- a limit whose turn is right -/
def Lim (m : D) : Prop := (badOk m = true) ∨ ∃ i, m = .int i ∧ countD m = true ∧ 3 ≤ i
theorem Lim.ty {m : D} (h : Lim m) : (tyOf m).isSome = true := by
  rcases h with h | ⟨i, rfl, _⟩
  · unfold badOk at h
    simp only [Bool.and_eq_true] at h
    exact h.1.2
  · rfl
theorem val_step {v m : D} (hv : v ∈ vals) (hm : Lim m) {s0 s1 s2 s3 s5 s6 s9 s10 s11 : Option W} {L : List Obj} : ∃ s10', eB P13 valB [s0, s1, s2, s3, some (.d m), s5, s6, some (.d (.bl (countD m))), some (.d v), s9, s10, s11] L = .ok .nx [s0, s1, s2, s3, some (.d m), s5, s6, some (.d (.bl (countD m))), some (.d v), s9, s10', s11] L := by
  have hvk := List.all_eq_true.mp vals_ok v hv
  have f : P13.fn 11 = F11 := rfl
  rcases hm with hm | ⟨i, rfl, hc, hi⟩
  · unfold badOk at hm
    simp only [Bool.and_eq_true, Bool.not_eq_true'] at hm
    obtain ⟨⟨h1, h2⟩, h3⟩ := hm
    cases q : reprO m with
    | none => rw [q] at h3; cases h3
    | some t =>
      rw [q] at h3
      simp only [Bool.and_eq_true, decide_eq_true_eq] at h3
      obtain ⟨h3, h4⟩ := h3
      obtain ⟨u, hu⟩ := Option.isSome_iff_exists.mp h4
      have hc := callR_dd (m := false) (L := L) (told_err (v := v) h2 h1 q h3)
      rw [← f] at hc
      have a1 : eE P13 dueE [s0, s1, s2, s3, some (.d m), s5, s6, some (.d (.bl (countD m))), some (.d v), s9, s10, s11] L = .ok (.d (.str (num ++ t))) L := by
        unfold dueE
        rw [ite_bl (c := countD m) (L1 := L) (var_ok rfl), h1, if_neg Bool.false_ne_true]
        refine bin_ok con_ok (bn1 (var_ok rfl) rfl (repr_some q)) rfl rfl ?_
        simp only [binO]
        rw [if_pos]
        · rfl
        · show 7 + t.length ≤ 16777216
          omega
      refine ⟨some (.d (.str (num ++ t))), ?_⟩
      unfold valB
      have c5 : eS P13 cmpB [s0, s1, s2, s3, some (.d m), s5, s6, some (.d (.bl (countD m))), some (.d v), s9, some (.d (.str (num ++ t))), s11] L = .ok .nx [s0, s1, s2, s3, some (.d m), s5, s6, some (.d (.bl (countD m))), some (.d v), s9, some (.d (.str (num ++ t))), s11] L :=
        ifs_skip (ne_same (t := u) (L1 := L) (bn1 (w := .d (.str (num ++ t))) (call2 (w := .d v) (w2 := .d m) (var_ok rfl) (var_ok rfl) hc) rfl (repr_some hu)) (bn1 (w := .d (.str (num ++ t))) (var_ok rfl) rfl (repr_some hu)))
      rw [eB_cons (ρ' := [s0, s1, s2, s3, some (.d m), s5, s6, some (.d (.bl (countD m))), some (.d v), s9, some (.d (.str (num ++ t))), s11]) (asg_ok (i := 10) a1), eB_cons c5]
      exact eB_nil
  · obtain ⟨b, hb, hs⟩ := good_in v hv
    have hc' := callR_dd (m := false) (L := L) (told_ok hvk hc)
    rw [hs i hi, ← f] at hc'
    obtain ⟨u, hu⟩ := repr_bl b
    have a1 : eE P13 dueE [s0, s1, s2, s3, some (.d (.int i)), s5, s6, some (.d (.bl (countD (.int i)))), some (.d v), s9, s10, s11] L = .ok (.d (.bl b)) L := by
      unfold dueE
      rw [ite_bl (c := countD (.int i)) (L1 := L) (var_ok rfl), hc, if_pos rfl]
      refine pcmp_ok (d := v) (e := goods) (var_ok rfl) (lst_ok (es2 (tup_ok es_nil rfl) (tup_ok (es3 con_ok con_ok con_ok) rfl)) rfl) rfl rfl ?_
      exact hb
    refine ⟨some (.d (.bl b)), ?_⟩
    unfold valB
    have c5 : eS P13 cmpB [s0, s1, s2, s3, some (.d (.int i)), s5, s6, some (.d (.bl (countD (.int i)))), some (.d v), s9, some (.d (.bl b)), s11] L = .ok .nx [s0, s1, s2, s3, some (.d (.int i)), s5, s6, some (.d (.bl (countD (.int i)))), some (.d v), s9, some (.d (.bl b)), s11] L :=
      ifs_skip (ne_same (t := u) (L1 := L) (bn1 (w := .d (.bl b)) (call2 (w := .d v) (w2 := .d (.int i)) (var_ok rfl) (var_ok rfl) hc') rfl (repr_some hu)) (bn1 (w := .d (.bl b)) (var_ok rfl) rfl (repr_some hu)))
    rw [eB_cons (ρ' := [s0, s1, s2, s3, some (.d (.int i)), s5, s6, some (.d (.bl (countD (.int i)))), some (.d v), s9, some (.d (.bl b)), s11]) (asg_ok (i := 10) a1), eB_cons c5]
    exact eB_nil
def valsE : IE := .lst false [(.tup []), (.tup [(.con (.str [97])), (.con (.str [98])), (.con (.str [98]))]), (.tup [(.con (.str [98])), (.con (.str [97]))]), (.con .non), (.lst false [(.con (.str [97]))]), (.con (.str [97, 98])), (.dct [(.con (.str [97])), (.con (.str [98]))]), (.tup [(.con (.str [97])), (.con (.int 7))]), (.tup [(.tup [(.con (.str [97]))])]), (.con (.int 7))]
theorem valsE_ok {ρ : Env} {L : List Obj} : eE P13 valsE ρ L = .ok (.d (.lst vals)) L := by
  have hd : ∀ L, dctD [.d (.str [97]), .d (.str [98])] L = some (.dct [(.str [97], .str [98])], L) := fun L => by
    simp [dctD, unpair, keyD, mergeD, putD, asDs, asD]
  simp only [valsE, vals, stepOf, cstepOf, runF, startE, eB, eS, eE, eEs, eEo, eTs, eI, R.bind, R.st, peek, peeks, Obj.data, truthR, truthO, asg, asgs, lstAt, asD, asDs, asD1, fresh, alloc, outO, outB, getO, ixO, cmpO, eqI, eqS, bnO, add_i, sub_i, augO, List.getElem?_cons_zero, List.getElem?_cons_succ, List.set_cons_zero, List.set_cons_succ, List.length_cons, List.length_nil, List.map_cons, List.map_nil, List.cons_append, List.nil_append, List.replicate, Option.bind_some, Option.map_some, Option.bind_none, Option.map_none, Nat.reduceAdd, Nat.reduceSub, reduceIte, Bool.false_eq_true, if_false, if_true, List.getElem?_nil, List.replicate_succ, List.replicate_zero, hd]
def limS : List IS := [.asg (.nm 7) letE, .for_ (.nm 8) (.val valsE) valB]
theorem lim_turn {m : D} (hm : Lim m) {s0 s1 s2 s3 s5 s6 s7 s8 s9 s10 s11 : Option W} {L : List Obj} : ∃ s7' s8' s10', eB P13 limS [s0, s1, s2, s3, some (.d m), s5, s6, s7, s8, s9, s10, s11] L = .ok .nx [s0, s1, s2, s3, some (.d m), s5, s6, s7', s8', s9, s10', s11] L := by
  have a1 := asg_ok (i := 7) (let_ok (s0 := s0) (s1 := s1) (s2 := s2) (s3 := s3) (s5 := s5) (s6 := s6) (s7 := s7) (s8 := s8) (s9 := s9) (s10 := s10) (s11 := s11) hm.ty (L := L))
  obtain ⟨ρ1, L1, e1, s8', s10', rfl, rfl⟩ := forLoop_all (step := stepOf P13 (.nm 8) valB) (I := fun ρ L' => ∃ s8' s10', ρ = [s0, s1, s2, s3, some (.d m), s5, s6, some (.d (.bl (countD m))), s8', s9, s10', s11] ∧ L' = L) (ds := vals) (fun v hv ρ L' hi => by
    obtain ⟨s8', s10', rfl, rfl⟩ := hi
    obtain ⟨t10, e⟩ := val_step hv hm (s0 := s0) (s1 := s1) (s2 := s2) (s3 := s3) (s5 := s5) (s6 := s6) (s9 := s9) (s10 := s10') (s11 := s11) (L := L')
    refine ⟨_, _, ?_, some (.d v), t10, rfl, rfl⟩
    simp only [stepOf, asg, List.set_cons_succ, List.set_cons_zero]
    exact e) (ρ := [s0, s1, s2, s3, some (.d m), s5, s6, some (.d (.bl (countD m))), s8, s9, s10, s11]) (L := L) ⟨s8, s10, rfl, rfl⟩
  refine ⟨some (.d (.bl (countD m))), s8', s10', ?_⟩
  unfold limS
  rw [eB_cons (ρ' := [s0, s1, s2, s3, some (.d m), s5, s6, some (.d (.bl (countD m))), s8, s9, s10, s11]) a1, eB_cons (for_ok (val_ok valsE_ok rfl) e1)]
  exact eB_nil
def limsE : IE := .lst false [(.neg (.con (.int 1))), (.con (.bl true)), (.con (.bl false)), (.con .non), (.con (.str [51])), (.tup [(.con (.int 3))]), (.bin .pow (.con (.int 10)) (.con (.int 60))), (.neg (.bin .pow (.con (.int 10)) (.con (.int 59)))), (.bin .add (.con (.int 3)) (.call false 3 [(.var 0), (.bin .pow (.con (.int 10)) (.con (.int 59)))]))]
theorem right_ok {k : Nat} (hk : k < 1000) {o : Obj} (ho : DiceO k o) : ∃ o', F13 [.loc 0] [o] = .ok (.d (.bl true)) [o'] ∧ o'.bare = true := by
  have hS : startE 12 [W.loc 0] = [some (.loc 0), none, none, none, none, none, none, none, none, none, none, none] := rfl
  have hB : b13 = [
    .asg (.nm 1) (.comp false [9] (.nm 9) (.rng1 (.con (.int 3))) [] (.call false 5 [(.var 0)])),
    .asg (.nm 2) (.call false 1 [(.var 1)]),
    .for_ (.nm 3) (.val (.call false 2 [(.var 1)])) rowB,
    .for_ (.nm 4) (.val limsE) limS,
    .ret (.con (.bl true))] := rfl
  -- the words
  have q1 : eI P13 (.rng1 (.con (.int 3))) [some (.loc 0), none, none, none, none, none, none, none, none, none, none, none] [o] = .ok ((List.range 3).map fun (k : Nat) => D.int (k : Int)) [o] := rng1_ok con_ok (rng_ok (n := 3) (by decide))
  obtain ⟨xs, L2, e2, l2, p2, o2, rfl, d2⟩ := compLoop_ix (step := cstepOf P13 [9] (.nm 9) [] (.call false 5 [(.var 0)]) [some (.loc 0), none, none, none, none, none, none, none, none, none, none, none]) (I := fun j L => ∃ o, L = [o] ∧ DiceO (k + 4 * j) o) (Pd := fun d => ∃ w ∈ words, d = .str w) ((List.range 3).map fun (k : Nat) => D.int (k : Int)) 0 (fun j d hj L hi => by
    obtain ⟨o3, rfl, d3⟩ := hi
    have hj3 : j < 3 := by have := (List.getElem?_eq_some_iff.mp hj).1; simpa using this
    obtain ⟨w, o4, e4, hw, d4⟩ := word_ok (by omega) d3
    have hc := callR_l (m := false) (L := [o3]) (n := 0) rfl d3.bare e4 d4.bare
    refine ⟨.str w, [o4], ?_, ⟨w, hw, rfl⟩, o4, rfl, by rw [show k + 4 * (0 + j + 1) = k + 4 * (0 + j) + 4 from by omega]; exact d4⟩
    have hcall : eE P13 (.call false 5 [(.var 0)]) ((wipeE [some (.loc 0), none, none, none, none, none, none, none, none, none, none, none] [9]).set 9 (some (.d d))) [o3] = .ok (.d (.str w)) [o4] := call1 (var_ok rfl) hc
    simp only [cstepOf, asg, eTs, R.bind, if_true]
    rw [hcall]
    rfl) (L := [o]) ⟨o, rfl, ho⟩
  have a1 := asg_ok (i := 1) (comp_ok q1 (by decide) e2)
  obtain ⟨ws, rfl, hws⟩ : ∃ ws : List T, xs = ws.map D.str ∧ ∀ w ∈ ws, w ∈ words := by
    clear a1 e2 l2
    induction xs with
    | nil => exact ⟨[], rfl, by simp⟩
    | cons x xs ih =>
      obtain ⟨ws, e, h⟩ := ih fun y hy => p2 y (List.mem_cons_of_mem _ hy)
      obtain ⟨w, hw, rfl⟩ := p2 x List.mem_cons_self
      exact ⟨w :: ws, by rw [e]; rfl, fun v hv => by rcases List.mem_cons.mp hv with rfl | hv; exact hw; exact h v hv⟩
  have hwl : ws.length ≤ 3 := by
    have := l2
    simp at this
    omega
  -- their places
  obtain ⟨rs, e3, hrs, hin⟩ := places_ok hws hwl
  have c3 := callR_d (m := false) (L := [o2]) e3
  have a2 : eS P13 (.asg (.nm 2) (.call false 1 [(.var 1)])) [some (.loc 0), some (.d (.lst (ws.map D.str))), none, none, none, none, none, none, none, none, none, none] [o2] = .ok .nx [some (.loc 0), some (.d (.lst (ws.map D.str))), some (.d (.dct (strK (plD 0 rs)))), none, none, none, none, none, none, none, none, none] [o2] := asg_ok (call1 (var_ok rfl) c3)
  -- the tuples
  obtain ⟨rows, L4, e4, pk4, hrows⟩ := tuples_ok hwl
  have c4 := callR_dl (L := [o2]) e4 pk4
  have q4 : eI P13 (.val (.call false 2 [(.var 1)])) [some (.loc 0), some (.d (.lst (ws.map D.str))), some (.d (.dct (strK (plD 0 rs)))), none, none, none, none, none, none, none, none, none] [o2] = .ok rows [o2] := val_ok (call1 (var_ok rfl) c4) rfl
  obtain ⟨ρ5, L5, e5, s3, s4, s5, s6, rfl, rfl⟩ := forLoop_all (step := stepOf P13 (.nm 3) rowB) (I := fun ρ L' => ∃ s3 s4 s5 s6, ρ = [some (.loc 0), some (.d (.lst (ws.map D.str))), some (.d (.dct (strK (plD 0 rs)))), s3, s4, s5, s6, none, none, none, none, none] ∧ L' = [o2]) (ds := rows) (fun d hd ρ L' hi => by
    obtain ⟨s3, s4, s5, s6, rfl, rfl⟩ := hi
    obtain ⟨r, rfl, h1, h2⟩ := hrows d hd
    obtain ⟨t4, t5, t6, e⟩ := row_step hrs hws hin h1 h2 (s0 := some (.loc 0)) (s4 := s4) (s5 := s5) (s6 := s6) (s7 := none) (s8 := none) (s9 := none) (s10 := none) (L := [o2])
    refine ⟨_, _, ?_, some (.d (.tup (r.map D.str))), t4, t5, t6, rfl, rfl⟩
    simp only [stepOf, asg, List.set_cons_succ, List.set_cons_zero]
    exact e) (ρ := [some (.loc 0), some (.d (.lst (ws.map D.str))), some (.d (.dct (strK (plD 0 rs)))), none, none, none, none, none, none, none, none, none]) (L := [o2]) ⟨none, none, none, none, rfl, rfl⟩
  -- the limits
  have p59 : binO .pow (.int 10) (.int 59) = some (.int 100000000000000000000000000000000000000000000000000000000000) := rfl
  have hk6 : k + 4 * (0 + ((List.range 3).map fun (k : Nat) => D.int (k : Int)).length) < 2 ^ 60 := by
    have : ((List.range 3).map fun (k : Nat) => D.int (k : Int)).length = 3 := rfl
    omega
  obtain ⟨z, o6, e6, z0, z1, d6⟩ := roll_call (P := P13) (Pa := P3) (kr := 3) (L := [o2]) (n := 0) rfl hk6 rfl d2 (t := 100000000000000000000000000000000000000000000000000000000000) (by decide) (by decide)
  have q6 : eE P13 limsE [some (.loc 0), some (.d (.lst (ws.map D.str))), some (.d (.dct (strK (plD 0 rs)))), s3, s4, s5, s6, none, none, none, none, none] [o2] = .ok (.d (.lst (bads ++ [.int (3 + z)]))) [o6] := by
    simp only [limsE, stepOf, cstepOf, runF, startE, eB, eS, eE, eEs, eEo, eTs, eI, R.bind, R.st, peek, peeks, Obj.data, truthR, truthO, asg, asgs, lstAt, asD, asDs, asD1, fresh, alloc, outO, outB, getO, ixO, cmpO, eqI, eqS, bnO, add_i, sub_i, augO, List.getElem?_cons_zero, List.getElem?_cons_succ, List.set_cons_zero, List.set_cons_succ, List.length_cons, List.length_nil, List.map_cons, List.map_nil, List.cons_append, List.nil_append, List.replicate, Option.bind_some, Option.map_some, Option.bind_none, Option.map_none, Nat.reduceAdd, Nat.reduceSub, reduceIte, Bool.false_eq_true, if_false, if_true, List.getElem?_nil, List.replicate_succ, List.replicate_zero, p60, p59, e6]
    rfl
  have hlim : ∀ m ∈ bads ++ [.int (3 + z)], Lim m := fun m hm => by
    rcases List.mem_append.mp hm with hm | hm
    · exact .inl (List.all_eq_true.mp bads_ok m hm)
    · rw [List.mem_singleton.mp hm]
      refine .inr ⟨3 + z, rfl, ?_, by omega⟩
      rw [countD_int, decide_eq_true (by omega), decide_eq_true (Int.lt_trans (show 3 + z < 100000000000000000000000000000000000000000000000000000000003 by omega) (by decide))]
      rfl
  obtain ⟨ρ7, L7, e7, t4, t7, t8, t10, rfl, rfl⟩ := forLoop_all (step := stepOf P13 (.nm 4) limS) (I := fun ρ L' => ∃ t4 t7 t8 t10, ρ = [some (.loc 0), some (.d (.lst (ws.map D.str))), some (.d (.dct (strK (plD 0 rs)))), s3, t4, s5, s6, t7, t8, none, t10, none] ∧ L' = [o6]) (ds := bads ++ [.int (3 + z)]) (fun m hm ρ L' hi => by
    obtain ⟨t4, t7, t8, t10, rfl, rfl⟩ := hi
    obtain ⟨u7, u8, u10, e⟩ := lim_turn (hlim m hm) (s0 := some (.loc 0)) (s1 := some (.d (.lst (ws.map D.str)))) (s2 := some (.d (.dct (strK (plD 0 rs))))) (s3 := s3) (s5 := s5) (s6 := s6) (s7 := t7) (s8 := t8) (s9 := none) (s10 := t10) (s11 := none) (L := [o6])
    refine ⟨_, _, ?_, some (.d m), u7, u8, u10, rfl, rfl⟩
    simp only [stepOf, asg, List.set_cons_succ, List.set_cons_zero]
    exact e) (ρ := [some (.loc 0), some (.d (.lst (ws.map D.str))), some (.d (.dct (strK (plD 0 rs)))), s3, s4, s5, s6, none, none, none, none, none]) (L := [o6]) ⟨s4, none, none, none, rfl, rfl⟩
  refine ⟨o6, runF_ok (ρ' := [some (.loc 0), some (.d (.lst (ws.map D.str))), some (.d (.dct (strK (plD 0 rs)))), s3, t4, s5, s6, t7, t8, none, t10, none]) ?_, d6.bare⟩
  rw [hS, hB, eB_cons a1]
  show eB P13 _ [some (.loc 0), some (.d (.lst (ws.map D.str))), none, none, none, none, none, none, none, none, none, none] [o2] = _
  rw [eB_cons a2, eB_cons (for_ok q4 e5), eB_cons (for_ok (val_ok q6 rfl) e7)]
  exact ret_con
end K01

set_option maxRecDepth 100000
set_option maxHeartbeats 4000000
namespace K01
open EV
/-- max(1, min(c, len(script))) -/
theorem many_ok {P : Pr} {ns : List Int} (hns : ns.length ≤ 63) {c : Nat} (hc : c ≤ 100) {ρ : Env} {L : List Obj} (hρ : ρ[0]? = some (some (.d (.scr ns)))) : ∃ m : Nat, m ≤ 101 ∧ eE P (.bn false .max [(.con (.int 1)), (.bn false .min [(.con (.int (c : Int))), (.bn false .len [(.var 0)])])]) ρ L = .ok (.d (.int (m : Int))) L := by
  have hh : ∃ m : Nat, m ≤ 101 ∧ (if (if (ns.length : Int) < (c : Int) then (ns.length : Int) else (c : Int)) > 1 then (if (ns.length : Int) < (c : Int) then (ns.length : Int) else (c : Int)) else 1) = (m : Int) := by
    by_cases h : (ns.length : Int) < (c : Int)
    · rw [if_pos h]
      by_cases h2 : (ns.length : Int) > 1
      · exact ⟨ns.length, by omega, by rw [if_pos h2]⟩
      · exact ⟨1, by omega, by rw [if_neg h2]; rfl⟩
    · rw [if_neg h]
      by_cases h2 : (c : Int) > 1
      · exact ⟨c, by omega, by rw [if_pos h2]⟩
      · exact ⟨1, by omega, by rw [if_neg h2]; rfl⟩
  obtain ⟨m, h1, h2⟩ := hh
  refine ⟨m, h1, ?_⟩
  simp only [stepOf, cstepOf, runF, startE, eB, eS, eE, eEs, eEo, eTs, eI, R.bind, R.st, peek, peeks, Obj.data, truthR, truthO, asg, asgs, lstAt, asD, asDs, asD1, fresh, alloc, outO, outB, getO, ixO, cmpO, eqI, eqS, bnO, add_i, sub_i, augO, List.getElem?_cons_zero, List.getElem?_cons_succ, List.set_cons_zero, List.set_cons_succ, List.length_cons, List.length_nil, List.map_cons, List.map_nil, List.cons_append, List.nil_append, List.replicate, Option.bind_some, Option.map_some, Option.bind_none, Option.map_none, Nat.reduceAdd, Nat.reduceSub, reduceIte, Bool.false_eq_true, if_false, if_true, List.getElem?_nil, List.replicate_succ, List.replicate_zero, hρ, h2]
def lawB : List IS := [.ifs (.not (.call false 13 [(.call true 14 [(.var 0), (.var 1)])])) [
      .ret (.con (.bl false))] []]
theorem says : EV.Says F15 63 := by
  intro ns hns
  have hS : startE 2 [W.d (D.scr ns)] = [some (.d (.scr ns)), none] := rfl
  have hB : b15 = [.for_ (.nm 1) (.rng1 (.bn false .max [(.con (.int 1)), (.bn false .min [(.con (.int 3)), (.bn false .len [(.var 0)])])])) lawB, .ret (.con (.bl true))] := rfl
  obtain ⟨m, hm, e1⟩ := many_ok (P := P15) hns (c := 3) (by decide) (ρ := [some (.d (.scr ns)), none]) (L := []) rfl
  have q1 : eI P15 (.rng1 (.bn false .max [(.con (.int 1)), (.bn false .min [(.con (.int 3)), (.bn false .len [(.var 0)])])])) [some (.d (.scr ns)), none] [] = .ok ((List.range m).map fun (k : Nat) => D.int (k : Int)) [] := rng1_ok e1 (rng_ok (by omega))
  obtain ⟨ρ2, L2, e2, s1, rfl⟩ := forLoop_all (step := stepOf P15 (.nm 1) lawB) (I := fun ρ L => ∃ s1, ρ = [some (.d (.scr ns)), s1]) (ds := (List.range m).map fun (k : Nat) => D.int (k : Int)) (fun d hd ρ L hi => by
    obtain ⟨s1, rfl⟩ := hi
    obtain ⟨sp, hsp, rfl⟩ := List.mem_map.mp hd
    have hsp2 : sp < m := by simpa using hsp
    obtain ⟨o, e0, d0⟩ := dice_ok (P := P14) ns (sp := sp) (by omega)
    have c0 := callR_own (L := L) e0 rfl d0.bare d0.live
    obtain ⟨o', e3, hb⟩ := right_ok (k := 0) (by decide) d0
    have c3 := callR_l (m := false) (L := L ++ [o]) (n := L.length) (by simp) d0.bare e3 hb
    refine ⟨[some (.d (.scr ns)), some (.d (.int (sp : Int)))], (L ++ [o]).set L.length o', ?_, _, rfl⟩
    have c4 : eE P15 (.call false 13 [(.call true 14 [(.var 0), (.var 1)])]) [some (.d (.scr ns)), some (.d (.int (sp : Int)))] L = .ok (.d (.bl true)) ((L ++ [o]).set L.length o') := call1 (call2 (w := .d (.scr ns)) (w2 := .d (.int (sp : Int))) (var_ok rfl) (var_ok rfl) c0) c3
    show eB P15 lawB [some (.d (.scr ns)), some (.d (.int (sp : Int)))] L = _
    unfold lawB
    rw [eB_cons (ifs_skip (not_bl c4))]
    exact eB_nil) (ρ := [some (.d (.scr ns)), none]) (L := []) ⟨none, rfl⟩
  refine ⟨L2, runF_ok (ρ' := [some (.d (.scr ns)), s1]) ?_⟩
  rw [hS, hB, eB_cons (for_ok q1 e2)]
  exact ret_con
end K01

set_option maxRecDepth 100000
set_option maxHeartbeats 0

open PySem PySem.W PySem.Calls PyProof.Rows
theorem PySem.Challenge.cw_linkbooks_k01_whole_sorted_tuples_holds : PySem.Challenge.rw_linkbooks_k01_whole_sorted_tuples.Holds := by
  w_on; o_law
  refine HandSHeadRun.head_any (r := K01.Rw) (q := view K01.Rw.prog [22]) (H := K01.hk) (ob := K01.ob) (M := 2000) (loose := K01.loose) (d := HandSHeadRun.topDef K01.Rw.prog 22) (kwd := []) K01.ob_eq
    (by kernel_rfl) (fun s => by kernel_rfl) K01.run (by kernel_rfl) (by kernel_rfl) (by kernel_rfl) (by rfl) (by first | assumption | decide +kernel) (by decide +kernel) ⟨rfl, rfl, rfl, rfl, rfl, by decide +kernel⟩ ?hw ?hc
  case hw => w_witness2
  case hc =>
    refine EV.walk_ev (l := PySem.Challenge.rw_linkbooks_k01_whole_sorted_tuples) (m := 63) (k := 16) (x := "script") (F := K01.F15) rfl (by decide) (by kernel_rfl) ⟨rfl, by decide, by decide⟩ K01.says ?_
    intro w mg fa h Yp G hmg0
    obtain ⟨K, KX, c⟩ := Yp
    have hmg : mg ("law" : PySem.Str) = some (.ref fa) := by
      have e : (HandSHeadRun.topDef K01.Rw.prog 22).name = ("law" : PySem.Str) := by kernel_rfl
      rw [← e]
      exact hmg0
    obtain ⟨fd, F⟩ := He.SaysD.def_ (EV.SaysX.both c).1 15 (d := K01.d15) rfl
    have e := hmg.symm.trans (He.glo_ok KX G (He.SaysD.fact (EV.SaysX.both c).1 15 (f := .glo "law") rfl))
    cases e
    have b := L2.FunD.bindsA (ps := ["script"]) F fun _ _ _ _ _ _ us hl => match us, hl with | [_], _ => rfl
    exact ⟨K, fd, K01.lay K, KX, rfl, fun s v => b s [v] rfl, fun base h1 h2 => K01.lawAt KX G c F⟩
