import PyProof.P3Statements
import PyProof.ReprReads
import PySem.Sem
import HandS.ForMost
import HandS.Exc
import HandS.ExcInit
import HandS.ExcOwn
import HandS.TupAny
import HandS.TupMul
import HandS.Conv
import HandS.Wide
import HandS.CallSlots
import HandS.WordsExc
import HandS.Lambda
import PyProof.DictRoadsH
import PyProof.DictMoreH
import PyProof.P3Eq
import PyProof.MeetsDict
import PyProof.DictRoads
import HandS.IsInst
import PyProof.ReprRoads
import HandS.Iter
import HandS.Comp
import HandS.ExcIs
import HandS.ExcField
import PyProof.DictTable
import KE.KExcIs
import KE.LtData
import KE.SortData
import HandS.SortRule
import PyProof.TupleOfSeq
import HandS.EndTab
import HandS.EndBits
import HandS.HeadWalk
import HandS.Defaults
import HandS.NestedK
import HandS.CallRecv
import HandS.HeadHook4
import PyProof.Rows.RegStrFacts
import PyProof.ReprLen
import PySem.Challenge.RW_bythethread_k65_whole_traces_counted
import KE.KStateDown
import HandS.Ends
import HandS.More
import HandS.Head0
import HandS.Head1
import HandS.Head2
import HandS.HeadEnd
set_option linter.all false
/-! Mi, part A: a small pure language, its values, its store and what its terms do. -/
namespace Mi
open PySem

/-! ### values and the store -/
inductive D where
  | non | bl (b : Bool) | int (i : Int) | str (s : Str) | tup (xs : List D) | frz (xs : List D) | ref (n : Nat)
  deriving Inhabited
mutual
def D.beq : D → D → Bool
  | .non, .non => true
  | .bl a, .bl b => decide (a = b)
  | .int a, .int b => decide (a = b)
  | .str a, .str b => decide (a = b)
  | .tup xs, .tup ys => D.beqs xs ys
  | .frz xs, .frz ys => D.beqs xs ys
  | .ref a, .ref b => decide (a = b)
  | _, _ => false
def D.beqs : List D → List D → Bool
  | [], [] => true
  | x :: xs, y :: ys => D.beq x y && D.beqs xs ys
  | _, _ => false
end
mutual
theorem D.beq_iff : ∀ (a b : D), D.beq a b = true ↔ a = b
  | .non, b => by cases b <;> simp [D.beq]
  | .bl x, b => by cases b <;> simp [D.beq]
  | .int x, b => by cases b <;> simp [D.beq]
  | .str x, b => by cases b <;> simp [D.beq]
  | .ref x, b => by cases b <;> simp [D.beq]
  | .tup xs, b => by
    cases b with
    | tup ys => simp [D.beq, D.beqs_iff xs ys]
    | _ => simp [D.beq]
  | .frz xs, b => by
    cases b with
    | frz ys => simp [D.beq, D.beqs_iff xs ys]
    | _ => simp [D.beq]
theorem D.beqs_iff : ∀ (a b : List D), D.beqs a b = true ↔ a = b
  | [], b => by cases b <;> simp [D.beqs]
  | x :: xs, b => by
    cases b with
    | nil => simp [D.beqs]
    | cons y ys => simp [D.beqs, D.beq_iff x y, D.beqs_iff xs ys]
end
instance : DecidableEq D := fun a b => if h : D.beq a b = true then .isTrue ((D.beq_iff a b).mp h) else .isFalse fun e => h ((D.beq_iff a b).mpr e)

/-- what stands in the store: a list, a dict (its pairs, its epoch), an exception (its class, its value) -/
inductive O where
  | lst (xs : List D) | dic (kvs : List (D × D)) (ep : Nat) | exc (c : Nat) (v : D)
  deriving DecidableEq

mutual
/-- no reference in it -/
def D.flat : D → Bool
  | .ref _ => false
  | .tup xs => D.flats xs
  | .frz xs => D.flats xs
  | _ => true
def D.flats : List D → Bool
  | [] => true
  | x :: xs => D.flat x && D.flats xs
end
def O.flat : O → Bool
  | .lst xs => D.flats xs
  | .dic kvs _ => D.flats (kvs.map (·.1)) && D.flats (kvs.map (·.2))
  | .exc _ v => v.flat

abbrev Sl := List (Option D)
abbrev Sto := List O

/-- how it goes on: a value, an exception (class, value), or nothing is told -/
inductive Out (α : Type) where
  | ok (a : α) (s : Sto) | exc (c : Nat) (v : D) (s : Sto) | no
abbrev M (α : Type) := Sto → Out α
@[reducible] def M.pure {α : Type} (a : α) : M α := fun s => .ok a s
@[reducible] def M.no {α : Type} : M α := fun _ => .no
def Out.bind {α β : Type} (o : Out α) (f : α → M β) : Out β := match o with
  | .ok a s => f a s
  | .exc c v s => .exc c v s
  | .no => .no
def M.bind {α β : Type} (m : M α) (f : α → M β) : M β := fun s => (m s).bind f
def M.opt {α : Type} (o : Option α) : M α := match o with
  | some a => M.pure a
  | none => M.no

/-! ### the terms -/
inductive Bop where | add | sub | mul | fdiv | mod | pow
  deriving DecidableEq
inductive Cop where | eq | ne | lt | le | gt | ge | isN | notN | mem | nmem
  deriving DecidableEq
inductive Ty where | int | bool | str | tuple | list
  deriving DecidableEq
inductive Bi where | len | int | abs | sum | max2 | min2 | repr | tuple | list | lrange | sorted | all | any
  deriving DecidableEq
inductive Me where | append | extend | pop | get | get2
  deriving DecidableEq
/-- of lists, of dicts -/
def Me.ofL : Me → Bool
  | .append | .extend | .pop => true
  | .get | .get2 => false
inductive Tg where
  | name (i : Nat) | tup (gs : List Tg)

mutual
inductive E where
  | cst (d : D) | var (i : Nat)
  | tup (es : List E) | lst (es : List E) | dic (kvs : List E)
  | bin (o : Bop) (a b : E) | neg (a : E)
  | cmp (o : Cop) (a b : E) | chain (o o' : Cop) (a b c : E)
  | and (a b : E) | or (a b : E) | not (a : E) | ite (t a b : E)
  | idx (a i : E) | slice (a : E) (lo hi : Option E)
  | call (f : Nat) (es : List E) | bi (f : Bi) (es : List E) | meth (m : Me) (a : E) (es : List E)
  | val (a : E) (n : Nat) | isI (a : E) (t : Ty) | isX (a : E) (c n : Nat)
  | heard (e : E)
  | comp (g : Tg) (vs : List Nat) (it : I) (ts : List E) (e : E)
inductive I where
  | seq (e : E) | rng1 (a : E) | rng2 (a b : E) | enum (e : E) | zip (a b : E)
end

inductive S where
  | set (g : Tg) (e : E) | put (a i e : E)
  | expr (e : E) | ifs (t : E) (a b : List S) | fors (g : Tg) (it : I) (b : List S) | whiles (t : E) (b : List S)
  | ret (e : E) | retN | raise (c : Nat) (e : E) | brk | cont | pass

/-! ### data without references -/
def seqOpt {α β : Type} (f : α → Option β) : List α → Option (List β)
  | [] => some []
  | x :: xs => match f x, seqOpt f xs with
    | some y, some ys => some (y :: ys)
    | _, _ => none
/-- the data that a value shows, lists read in the store; as deep as n -/
def snap (st : Sto) : Nat → D → Option PyData
  | 0, _ => none
  | n + 1, d => match d with
    | .non => some .none
    | .bl b => some (.bool b)
    | .int i => some (.int i)
    | .str s => if s.cps.all (· < 0x110000) then some (.str s) else none
    | .tup xs => (seqOpt (snap st n) xs).map .tuple
    | .frz xs => (seqOpt (snap st n) xs).map .list
    | .ref k => match st[k]? with
      | some (.lst xs) => (seqOpt (snap st n) xs).map .list
      | _ => none
def lim : Nat := 16777216
def deep : Nat := 16
/-- what may be a key: ints, texts, tuples of keys -/
def keyOk : Nat → D → Bool
  | 0, _ => false
  | n + 1, d => match d with
    | .int _ => true
    | .str s => s.cps.all (· < 0x110000)
    | .tup xs => xs.all (keyOk n)
    | _ => false
def kindOf : D → Nat
  | .tup _ => 1
  | _ => 0
/-- a key that may be asked of a dict: tuples among tuples, ints and texts among such -/
def dictOk (kvs : List (D × D)) (k : D) : Bool := keyOk 6 k && kvs.all fun p => kindOf p.1 == kindOf k
def dget (kvs : List (D × D)) (k : D) : Option D := match kvs with
  | [] => none
  | p :: r => if p.1 = k then some p.2 else dget r k
def dput (kvs : List (D × D)) (k v : D) : List (D × D) := match kvs with
  | [] => [(k, v)]
  | p :: r => if p.1 = k then (p.1, v) :: r else p :: dput r k v
def isInt : D → Option Int
  | .int i => some i
  | _ => none
def ints? : List D → Option (List Int) := seqOpt isInt
/-- the first of two lists, by the first place whose items differ -/
def lexD (lt : D → D → Bool) : List D → List D → Bool
  | [], [] => false
  | [], _ :: _ => true
  | _ :: _, [] => false
  | x :: xs, y :: ys => if x = y then lexD lt xs ys else lt x y
/-- the order of data: ints, texts, tuples of them -/
def ltD : Nat → D → D → Bool
  | 0, _, _ => false
  | n + 1, x, y => match x, y with
    | .int a, .int b => decide (a < b)
    | .str a, .str b => decide (a.cps.toList < b.cps.toList)
    | .tup xs, .tup ys => lexD (ltD n) xs ys
    | _, _ => false
def allZ (p : D → D → Bool) : List D → List D → Bool
  | x :: xs, y :: ys => p x y && allZ p xs ys
  | _, _ => true
/-- they can be compared, place by place -/
def cmpOk : Nat → D → D → Bool
  | 0, _, _ => false
  | n + 1, x, y => match x, y with
    | .int _, .int _ => true
    | .str _, .str _ => true
    | .tup xs, .tup ys => allZ (cmpOk n) xs ys
    | _, _ => false

/-! ### what is iterated -/
inductive Sq where | ref (n : Nat) | tup (xs : List D) | frz (xs : List D)
inductive Itv where
  | sq (s : Sq) | rng (lo : Int) (n : Nat) | enum (s : Sq) | zip (a b : Sq) | keys (k ep n : Nat)
def Sq.at (s : Sq) (st : Sto) (i : Nat) : Option (Option D) := match s with
  | .tup xs => some xs[i]?
  | .frz xs => some xs[i]?
  | .ref k => match st[k]? with
    | some (.lst xs) => some xs[i]?
    | _ => none
/-- the turn's item: none: nothing is told; some none: the end -/
def Itv.at (t : Itv) (st : Sto) (i : Nat) : Option (Option D) := match t with
  | .sq s => s.at st i
  | .rng lo n => some (if i < n then some (.int (lo + i)) else none)
  | .enum s => (s.at st i).map fun o => o.map fun d => .tup [.int i, d]
  | .zip a b => match a.at st i, b.at st i with
    | some (some x), some (some y) => some (some (.tup [x, y]))
    | some _, some _ => some none
    | _, _ => none
  | .keys k ep n => match st[k]? with
    | some (.dic kvs ep') => if ep' = ep ∧ kvs.length = n then some ((kvs[i]?).map (·.1)) else none
    | _ => none
/-- a list -/
def lsq (st : Sto) : D → Option Sq
  | .ref k => match st[k]? with
    | some (.lst _) => some (.ref k)
    | _ => none
  | .frz xs => some (.frz xs)
  | _ => none

/-! ### operators by values -/
def alloc (o : O) : M D := fun st => .ok (.ref st.length) (st ++ [o])
def newL (xs : List D) : M D := if xs.length ≤ lim then alloc (.lst xs) else M.no
def newT (xs : List D) : M D := if xs.length ≤ lim then M.pure (.tup xs) else M.no
def small (i : Int) : Bool := decide (-(2 ^ 62) ≤ i) && decide (i < 2 ^ 62)
def isSeq (st : Sto) : D → Option (List D)
  | .tup xs => some xs
  | .frz xs => some xs
  | .ref k => match st[k]? with
    | some (.lst xs) => some xs
    | _ => none
  | _ => none
def binD (o : Bop) (x y : D) : M D := fun st => match o, x, y with
  | .add, .int a, .int b => .ok (.int (a + b)) st
  | .add, .str a, .str b => if a.length + b.length ≤ lim then .ok (.str (a ++ b)) st else .no
  | .add, .tup a, .tup b => if a.length + b.length ≤ lim then .ok (.tup (a ++ b)) st else .no
  | .add, .ref a, .ref b => match st[a]?, st[b]? with
    | some (.lst xs), some (.lst ys) => newL (xs ++ ys) st
    | _, _ => .no
  | .sub, .int a, .int b => .ok (.int (a - b)) st
  | .mul, .int a, .int b => if a.natAbs.log2 + b.natAbs.log2 < 1000000 then .ok (.int (a * b)) st else .no
  | .mul, .ref a, .int b => match st[a]? with
    | some (.lst xs) => if small b && decide (xs.length * b.toNat ≤ lim) then newL (List.replicate b.toNat xs).flatten st else .no
    | _ => .no
  | .mul, .tup xs, .int b => if xs ≠ [] ∧ 2 ≤ b ∧ b ≤ 1000 ∧ xs.length ≤ 1000 then .ok (.tup (List.replicate b.toNat xs).flatten) st else .no
  | .fdiv, .int a, .int b => if 0 < b ∧ b.natAbs.log2 < 9000 then .ok (.int (a / b)) st else .no
  | .mod, .int a, .int b => if 0 < b then .ok (.int (a % b)) st else .no
  | .pow, .int a, .int b => if 0 ≤ b ∧ ((a.natAbs.log2 + 1 : Nat) : Int) * b ≤ 1000000 then .ok (.int (a ^ b.toNat)) st else .no
  | _, _, _ => .no
def eqD (st : Sto) (x y : D) : Option Bool := match snap st deep x, snap st deep y with
  | some a, some b => some (PyData.eqv a b)
  | _, _ => none
def memD (st : Sto) (x y : D) : Option Bool := match y with
  | .ref k => match st[k]? with
    | some (.dic kvs _) => if dictOk kvs x then some (dget kvs x).isSome else none
    | _ => match snap st deep x, snap st deep y with
      | some a, some (.list bs) => some (bs.any fun z => PyData.eqv z a)
      | _, _ => none
  | .frz _ => match snap st deep x, snap st deep y with
    | some a, some (.list bs) => some (bs.any fun z => PyData.eqv z a)
    | _, _ => none
  | _ => match snap st deep x, snap st deep y with
    | some a, some (.tuple bs) => some (bs.any fun z => PyData.eqv z a)
    | _, _ => none
def cmpI (o : Cop) (a b : Int) : Option Bool := match o with
  | .lt => some (decide (a < b))
  | .le => some (decide (a ≤ b))
  | .gt => some (decide (b < a))
  | .ge => some (decide (b ≤ a))
  | _ => none
def cmpD (o : Cop) (x y : D) : M D := fun st => match (match o with
    | .eq => eqD st x y
    | .ne => (eqD st x y).map not
    | .isN => if y = .non then some (decide (x = .non)) else none
    | .notN => if y = .non then some (!decide (x = .non)) else none
    | .mem => memD st x y
    | .nmem => (memD st x y).map not
    | o => match x, y with
      | .int a, .int b => cmpI o a b
      | _, _ => none) with
  | some b => .ok (.bl b) st
  | none => .no
/-- the place of an index in a sequence of n items -/
def place (n : Nat) (i : Int) : Option Nat := if 0 ≤ i then (if i < (n : Int) then some i.toNat else none) else if -(n : Int) ≤ i then some (i + n).toNat else none
def idxD (x i : D) : M D := fun st => match x with
  | .ref k => match st[k]?, i with
    | some (.dic kvs _), i => if dictOk kvs i then (match dget kvs i with | some v => .ok v st | none => .no) else .no
    | some (.lst xs), .int j => (match (place xs.length j).bind (xs[·]?) with | some v => .ok v st | none => .no)
    | _, _ => .no
  | .tup xs => match i with
    | .int j => (match (place xs.length j).bind (xs[·]?) with | some v => .ok v st | none => .no)
    | _ => .no
  | .frz xs => match i with
    | .int j => (match (place xs.length j).bind (xs[·]?) with | some v => .ok v st | none => .no)
    | _ => .no
  | _ => .no
/-- a bound of a slice, within 0 .. n -/
def bound (n : Nat) (i : Int) : Nat := if i < 0 then (i + n).toNat else min i.toNat n
def cut {α : Type} (xs : List α) (lo hi : Option Int) : List α :=
  let a := match lo with | none => 0 | some i => bound xs.length i
  let b := match hi with | none => xs.length | some i => bound xs.length i
  (xs.take b).drop a
def sliceD (x : D) (lo hi : Option Int) : M D := fun st => match x with
  | .tup xs => .ok (.tup (cut xs lo hi)) st
  | .frz xs => newL (cut xs lo hi) st
  | .ref k => match st[k]? with
    | some (.lst xs) => newL (cut xs lo hi) st
    | _ => .no
  | _ => .no
def unIdx : D → Option (Option Int)
  | .int i => some (some i)
  | _ => none
def intD : D → Bool
  | .int _ => true
  | _ => false
def rowD : D → Bool
  | .tup xs => xs.all intD
  | _ => false
/-- what can be sorted: ints; rows of ints; keys that compare two by two -/
def sortOk (xs : List D) : Bool := xs.all rowD || xs.all intD || (xs.all (keyOk 6) && xs.all fun x => xs.all fun y => cmpOk 6 x y)
def insD (lt : D → D → Bool) (y : D) : List D → List D
  | [] => [y]
  | z :: zs => if lt y z then y :: z :: zs else z :: insD lt y zs
def srtD (lt : D → D → Bool) (xs : List D) : List D := xs.foldl (fun acc y => insD lt y acc) []
def sortD (xs : List D) : Option (List D) := if sortOk xs then some (srtD (ltD 6) xs) else none
def isT (st : Sto) (t : Ty) : D → Option Bool
  | .non => some false
  | .int _ => some (t = .int)
  | .bl _ => some (t = .int || t = .bool)
  | .str _ => some (t = .str)
  | .tup _ => some (t = .tuple)
  | .frz _ => some (t = .list)
  | .ref k => match st[k]? with
    | some (.lst _) => some (t = .list)
    | some (.dic _ _) => some false
    | _ => none
def biD (f : Bi) (ds : List D) : M D := fun st => match f, ds with
  | .len, [.ref k] => match st[k]? with
    | some (.lst xs) => .ok (.int xs.length) st
    | some (.dic kvs _) => .ok (.int kvs.length) st
    | _ => .no
  | .len, [.tup xs] => .ok (.int xs.length) st
  | .len, [.frz xs] => .ok (.int xs.length) st
  | .len, [.str s] => if s.length ≤ lim then .ok (.int s.length) st else .no
  | .int, [.int i] => .ok (.int i) st
  | .int, [.bl b] => .ok (.int (if b then 1 else 0)) st
  | .abs, [.int i] => .ok (.int (if i < 0 then -i else i)) st
  | .sum, [.ref k] => match (isSeq st (.ref k)).bind ints? with
    | some is => .ok (.int is.sum) st
    | none => .no
  | .max2, [.int i, .int j] => .ok (.int (if j > i then j else i)) st
  | .min2, [.int i, .int j] => .ok (.int (if j < i then j else i)) st
  | .repr, [d] => match snap st deep d with
    | some p => if p.showable && decide (p.shown.length ≤ lim) then .ok (.str p.shown) st else .no
    | none => .no
  | .tuple, [d] => match isSeq st d with
    | some xs => .ok (.tup xs) st
    | none => .no
  | .list, [d] => match isSeq st d with
    | some xs => newL xs st
    | none => .no
  | .lrange, [.int n] => if small n then newL ((List.range n.toNat).map fun i => .int (i : Nat)) st else .no
  | .sorted, [d] => match (isSeq st d).bind sortD with
    | some xs => newL xs st
    | none => .no
  | .all, [.ref k] => match (isSeq st (.ref k)).bind (seqOpt fun | .bl b => some b | _ => none) with
    | some bs => .ok (.bl (bs.all id)) st
    | none => .no
  | .any, [.ref k] => match (isSeq st (.ref k)).bind (seqOpt fun | .bl b => some b | _ => none) with
    | some bs => .ok (.bl (bs.any id)) st
    | none => .no
  | _, _ => .no
def meTy (st : Sto) (m : Me) (x : D) : Bool := match x with
  | .ref k => match st[k]? with
    | some (.lst _) => m.ofL
    | some (.dic _ _) => !m.ofL
    | _ => false
  | _ => false
def methD (m : Me) (x : D) (ds : List D) : M D := fun st => match x with
  | .ref k => match st[k]?, m, ds with
    | some (.lst xs), .append, [d] => if xs.length < lim then .ok .non (st.set k (.lst (xs ++ [d]))) else .no
    | some (.lst xs), .extend, [.ref j] => match st[j]? with
      | some (.lst ys) => if xs.length + ys.length ≤ lim then .ok .non (st.set k (.lst (xs ++ ys))) else .no
      | _ => .no
    | some (.lst xs), .pop, [] => match xs.getLast? with
      | some d => .ok d (st.set k (.lst xs.dropLast))
      | none => .no
    | some (.dic kvs _), .get, [d] => if dictOk kvs d then .ok ((dget kvs d).getD .non) st else .no
    | some (.dic kvs _), .get2, [d, e] => if dictOk kvs d then .ok ((dget kvs d).getD e) st else .no
    | _, _, _ => .no
  | _ => .no
/-- x[i] = v -/
def putD (x i v : D) : Sto → Option Sto := fun st => match x with
  | .ref k => match st[k]? with
    | some (.lst xs) => match i with
      | .int j => (place xs.length j).map fun n => st.set k (.lst (xs.set n v))
      | _ => none
    | some (.dic kvs ep) => if dictOk kvs i && decide (kvs.length < lim) then some (st.set k (.dic (dput kvs i v) (if (dget kvs i).isSome then ep else ep + 1))) else none
    | _ => none
  | _ => none
/-- key, value, key, value .. -/
def dicOf : List D → List (D × D) → Option (List (D × D))
  | [], acc => some acc
  | k :: v :: r, acc => if dictOk acc k then dicOf r (dput acc k v) else none
  | _, _ => none
mutual
def Tg.put : Tg → D → Sl → Option Sl
  | .name i, d, env => if i < env.length then some (env.set i (some d)) else none
  | .tup gs, d, env => match d with
    | .tup ds => Tg.puts gs ds env
    | _ => none
def Tg.puts : List Tg → List D → Sl → Option Sl
  | [], [], env => some env
  | g :: gs, d :: ds, env => (Tg.put g d env).bind (Tg.puts gs ds)
  | _, _, _ => none
end
mutual
def Tg.ixs : Tg → List Nat
  | .name i => [i]
  | .tup gs => Tg.ixss gs
def Tg.ixss : List Tg → List Nat
  | [] => []
  | g :: gs => Tg.ixs g ++ Tg.ixss gs
end
def wipe (env : Sl) : List Nat → Sl
  | [] => env
  | v :: vs => (wipe env vs).set v none
def asB : D → Option Bool
  | .bl b => some b
  | _ => none

/-! ### the meaning -/
/-- how many turns at most -/
def turns : Nat := 1000000000
def compN (at_ : Sto → Nat → Option (Option D)) (turn : D → M (Option D)) : Nat → Nat → List D → M (List D)
  | 0, _, _ => M.no
  | n + 1, i, acc => fun st => match at_ st i with
    | none => .no
    | some none => .ok acc st
    | some (some d) => (turn d st).bind fun o => match o with
      | none => compN at_ turn n (i + 1) acc
      | some x => if acc.length < lim then compN at_ turn n (i + 1) (acc ++ [x]) else M.no
inductive Fl where
  | nx (env : Sl) | rt (d : D) | bk (env : Sl) | ct (env : Sl)
def loopN (at_ : Sto → Nat → Option (Option D)) (body : D → Sl → M Fl) : Nat → Nat → Sl → M Fl
  | 0, _, _ => M.no
  | n + 1, i, env => fun st => match at_ st i with
    | none => .no
    | some none => .ok (.nx env) st
    | some (some d) => (body d env st).bind fun fl => match fl with
      | .nx env' => loopN at_ body n (i + 1) env'
      | .ct env' => loopN at_ body n (i + 1) env'
      | .bk env' => M.pure (.nx env')
      | .rt v => M.pure (.rt v)
def whileN (test : Sl → M Bool) (body : Sl → M Fl) : Nat → Sl → M Fl
  | 0, _ => M.no
  | n + 1, env => M.bind (test env) fun b => if b then M.bind (body env) fun fl => match fl with
      | .nx env' => whileN test body n env'
      | .ct env' => whileN test body n env'
      | .bk env' => M.pure (.nx env')
      | .rt v => M.pure (.rt v)
    else M.pure (.nx env)
def heardD (o : Out D) : Out D := match o with
  | .ok v st => .ok (.tup [.non, v]) st
  | .exc c v st => .ok (.tup [.ref st.length, .non]) (st ++ [.exc c v])
  | .no => .no
/-- an exception does not leave -/
def calm {α : Type} (m : M α) : M α := fun st => match m st with
  | .ok a st' => .ok a st'
  | _ => .no

section
variable (Φ : Nat → List D → M D)
mutual
def den : E → Sl → M D
  | .cst d, _ => M.pure d
  | .var i, env => match env[i]? with
    | some (some d) => M.pure d
    | _ => M.no
  | .tup es, env => M.bind (dens es env) newT
  | .lst es, env => M.bind (dens es env) newL
  | .dic kvs, env => M.bind (dens kvs env) fun ds => match dicOf ds [] with
    | some kvs => if ds.length ≤ 30 then alloc (.dic kvs kvs.length) else M.no
    | none => M.no
  | .bin o a b, env => M.bind (den a env) fun x => M.bind (den b env) fun y => binD o x y
  | .neg a, env => M.bind (den a env) fun x => match x with
    | .int i => M.pure (.int (-i))
    | _ => M.no
  | .cmp o a b, env => M.bind (den a env) fun x => M.bind (den b env) fun y => cmpD o x y
  | .chain o o' a b c, env => M.bind (den a env) fun x => M.bind (den b env) fun y => M.bind (cmpD o x y) fun k => match k with
    | .bl true => M.bind (den c env) fun z => cmpD o' y z
    | .bl false => M.pure (.bl false)
    | _ => M.no
  | .and a b, env => M.bind (den a env) fun x => match x with
    | .bl true => M.bind (den b env) fun y => match y with
      | .bl c => M.pure (.bl c)
      | _ => M.no
    | .bl false => M.pure (.bl false)
    | _ => M.no
  | .or a b, env => M.bind (den a env) fun x => match x with
    | .bl false => M.bind (den b env) fun y => match y with
      | .bl c => M.pure (.bl c)
      | _ => M.no
    | .bl true => M.pure (.bl true)
    | _ => M.no
  | .not a, env => M.bind (den a env) fun x => match x with
    | .bl b => M.pure (.bl (!b))
    | _ => M.no
  | .ite t a b, env => M.bind (den t env) fun x => match x with
    | .bl true => den a env
    | .bl false => den b env
    | _ => M.no
  | .idx a i, env => M.bind (den a env) fun x => M.bind (den i env) fun y => idxD x y
  | .slice a lo hi, env => M.bind (den a env) fun x => M.bind (denO lo env) fun i => M.bind (denO hi env) fun j => sliceD x i j
  | .call f es, env => M.bind (dens es env) (Φ f)
  | .bi f es, env => M.bind (dens es env) (biD f)
  | .meth m a es, env => M.bind (den a env) fun x st => if meTy st m x then M.bind (dens es env) (methD m x) st else .no
  | .val a n, env => M.bind (den a env) fun x st => match x with
    | .ref k => match st[k]? with
      | some (.exc c v) => if c < n then .ok v st else .no
      | _ => .no
    | _ => .no
  | .isI a t, env => M.bind (den a env) fun x st => match isT st t x with
    | some b => .ok (.bl b) st
    | none => .no
  | .isX a c n, env => M.bind (den a env) fun x st => match x with
    | .ref k => match st[k]? with
      | some (.exc c' _) => if c < n ∧ c' < n then .ok (.bl (decide (c' = c) || c == 0)) st else .no
      | _ => .no
    | .non => .ok (.bl false) st
    | _ => .no
  | .heard e, env => fun st => heardD (den e env st)
  | .comp g vs it ts e, env => M.bind (denI it env) fun t => M.bind (calm (compN t.at (fun d => match g.put d (wipe env vs) with
      | none => M.no
      | some env' => M.bind (denT ts env') fun b => if b then M.bind (den e env') fun x => M.pure (some x) else M.pure none) turns 0 [])) newL
def denT : List E → Sl → M Bool
  | [], _ => M.pure true
  | e :: es, env => M.bind (den e env) fun x => match x with
    | .bl true => denT es env
    | .bl false => M.pure false
    | _ => M.no
def dens : List E → Sl → M (List D)
  | [], _ => M.pure []
  | e :: es, env => M.bind (den e env) fun x => M.bind (dens es env) fun xs => M.pure (x :: xs)
def denO : Option E → Sl → M (Option Int)
  | none, _ => M.pure none
  | some e, env => M.bind (den e env) fun x => match x with
    | .int i => M.pure (some i)
    | _ => M.no
def denI : I → Sl → M Itv
  | .seq e, env => M.bind (den e env) fun x st => match x with
    | .tup xs => .ok (.sq (.tup xs)) st
    | .frz xs => .ok (.sq (.frz xs)) st
    | .ref k => match st[k]? with
      | some (.dic kvs ep) => .ok (.keys k ep kvs.length) st
      | some (.lst _) => .ok (.sq (.ref k)) st
      | _ => .no
    | _ => .no
  | .rng1 a, env => M.bind (den a env) fun x => match x with
    | .int n => if small n then M.pure (.rng 0 n.toNat) else M.no
    | _ => M.no
  | .rng2 a b, env => M.bind (den a env) fun x => M.bind (den b env) fun y => match x, y with
    | .int m, .int n => if small m && small n then M.pure (.rng m (n - m).toNat) else M.no
    | _, _ => M.no
  | .enum e, env => M.bind (den e env) fun x st => match lsq st x with
    | some k => .ok (.enum k) st
    | none => .no
  | .zip a b, env => M.bind (den a env) fun x => M.bind (den b env) fun y st => match lsq st x, lsq st y with
    | some k, some l => .ok (.zip k l) st
    | _, _ => .no
end
mutual
def denS : S → Sl → M Fl
  | .set g e, env => M.bind (den Φ e env) fun d => match g.put d env with
    | some env' => M.pure (.nx env')
    | none => M.no
  | .put a i e, env => M.bind (den Φ e env) fun v => M.bind (den Φ a env) fun x => M.bind (den Φ i env) fun y st => match putD x y v st with
    | some st' => .ok (.nx env) st'
    | none => .no
  | .expr e, env => M.bind (den Φ e env) fun _ => M.pure (.nx env)
  | .ifs t a b, env => M.bind (den Φ t env) fun x => match x with
    | .bl true => denSs a env
    | .bl false => denSs b env
    | _ => M.no
  | .fors g it b, env => M.bind (denI Φ it env) fun t => loopN t.at (fun d env' => match g.put d env' with
    | some env'' => denSs b env''
    | none => M.no) turns 0 env
  | .whiles t b, env => whileN (fun env' => M.bind (den Φ t env') fun x => match x with
    | .bl c => M.pure c
    | _ => M.no) (fun env' => denSs b env') turns env
  | .ret e, env => M.bind (den Φ e env) fun d => M.pure (.rt d)
  | .retN, _ => M.pure (.rt .non)
  | .raise c e, env => M.bind (den Φ e env) fun v st => .exc c v st
  | .brk, env => M.pure (.bk env)
  | .cont, env => M.pure (.ct env)
  | .pass, env => M.pure (.nx env)
def denSs : List S → Sl → M Fl
  | [], env => M.pure (.nx env)
  | s :: ss, env => M.bind (denS s env) fun fl => match fl with
    | .nx env' => denSs ss env'
    | .rt d => M.pure (.rt d)
    | .bk env' => M.pure (.bk env')
    | .ct env' => M.pure (.ct env')
end
end

/-! ### defs -/
structure Fn where
  np : Nat
  nl : Nat
  body : List S
/-- what stood ahead stands so still, or has no references -/
def sameBut (n : Nat) (st st' : Sto) : Bool := decide (n ≤ st'.length) && (List.range n).all fun i => decide (st'[i]? = st[i]?) || (match st'[i]? with | some o => o.flat | none => false)
/-- what was made by a call and isn't handed on is forgotten -/
def tidy (st : Sto) (o : Out D) : Out D := match o with
  | .ok v st' => if v.flat && sameBut st.length st st' then .ok v (st'.take st.length) else .ok v st'
  | .exc c v st' => if v.flat && sameBut st.length st st' then .exc c v (st'.take st.length) else .exc c v st'
  | .no => .no
def leave (o : Out Fl) : Out D := match o with
  | .ok (.rt v) st => .ok v st
  | .ok (.nx _) st => .ok .non st
  | .ok _ _ => .no
  | .exc c v st => .exc c v st
  | .no => .no
def callN (FT : List Fn) : Nat → Nat → List D → M D
  | 0, _, _ => M.no
  | d + 1, k, args => match FT[k]? with
    | none => M.no
    | some f => if args.length = f.np ∧ f.np ≤ f.nl then fun st => tidy st (leave (denSs (callN FT d) f.body (args.map some ++ List.replicate (f.nl - f.np) none) st)) else M.no
end Mi

set_option Elab.async false
set_option linter.all false
set_option maxRecDepth 100000
set_option maxHeartbeats 1000000
/-! Mi, part B: values and stores against the abstract heap. -/
namespace Mi
open PySem PySem.Spec PyProof.Rows L2

theorem lim_eq : lim = sizeLine := by rw [sizeLine_eq]; rfl

/-- a dict as it lies: its entries, its epoch -/
def RawD (a : Addr) (es : Array DictEntry) (ep : Nat) : HO := .ext fun h => ∃ o, h.get? a = some o ∧ o.ExactDict ∧ o.data = .dict es ep
/-- an exception that was caught: of the class at C, its dict at dx -/
def ExcH (a C dx : Addr) : HO := .ext fun h => ∃ o vs, h.get? a = some o ∧ o.cls = .ref C ∧ o.dict = some dx ∧ o.data = .fields vs

/-- a list that nobody writes -/
def SqF (K : PySem.W.Frag) (H : Hp) (a : Addr) (xs : List V) : Prop :=
  (∃ o, H a = some (.frz o (.lst xs))) ∨
    ∃ (o : Obj) (its : Array Value) (n : Nat), K.lookup a = some o ∧ o.cls = .type "list" ∧ o.dict = none ∧ o.data = .seq its n ∧ its.size ≤ sizeLine ∧ Vals xs its.toList
theorem SqF.sq {K : PySem.W.Frag} {H : Hp} {a : Addr} {xs : List V} (h : SqF K H a xs) : SqL K H a xs := h.elim (fun ⟨o, e⟩ => .inl (.inr ⟨o, e⟩)) .inr
/-- the addresses of the exceptions' classes; the tables of code objects -/
structure Ca where
  cls : Nat → Addr
  T : List (Addr × Str)
instance : CoeFun Ca (fun _ => Nat → Addr) := ⟨Ca.cls⟩
/-- an object of the store is no such -/
structure Plain (a : Addr) (u : HO) : Prop where
  tup : ∀ vs, u ≠ .tup vs
  frz : ∀ ob x, u ≠ .frz ob x
  tbl : ∀ ps, u ≠ .tbl ps
  code : ∀ q, u ≠ LamX.CodeO a q
theorem heap_with (a : Addr) (o : Obj) (hf : o.isFreed = false) : ∃ h : Heap, h.get? a = some o := by
  have e : ((⟨Array.replicate a o, {}⟩ : Heap).push o).get? (⟨Array.replicate a o, {}⟩ : Heap).objs.size = some o := Heap.get?_push_size _ hf
  exact ⟨_, by simpa using e⟩
theorem rawD_code {a : Addr} {es : Array DictEntry} {ep : Nat} {q : Str} : RawD a es ep ≠ LamX.CodeO a q := fun z => by
  obtain ⟨h, e⟩ := heap_with a { cls := .type "dict", data := .dict es ep } rfl
  unfold RawD LamX.CodeO at z
  have z := congrFun (HO.ext.inj z) h
  have r : ∃ o, h.get? a = some o ∧ o.ExactDict ∧ o.data = .dict es ep := ⟨_, e, ⟨rfl, rfl, rfl⟩, rfl⟩
  rw [z] at r
  obtain ⟨oc, vs, t, e1, e2, e3⟩ := r
  rw [e] at e1
  cases e1
  cases e2
theorem excH_code {a C dx : Addr} {q : Str} : ExcH a C dx ≠ LamX.CodeO a q := fun z => by
  obtain ⟨h, e⟩ := heap_with a { cls := .ref C, dict := some dx, data := .fields #[] } rfl
  unfold ExcH LamX.CodeO at z
  have z := congrFun (HO.ext.inj z) h
  have r : ∃ o vs, h.get? a = some o ∧ o.cls = .ref C ∧ o.dict = some dx ∧ o.data = .fields vs := ⟨_, _, e, rfl, rfl, rfl⟩
  rw [z] at r
  obtain ⟨oc, vs, t, e1, e2, e3⟩ := r
  rw [e] at e1
  cases e1
  cases e2
  cases e3
theorem plain_lst {a : Addr} {vs : List V} : Plain a (.lst vs) := ⟨fun _ z => HO.noConfusion z, fun _ _ z => HO.noConfusion z, fun _ z => HO.noConfusion z, fun _ z => by unfold LamX.CodeO at z; cases z⟩
theorem plain_raw {a : Addr} {es : Array DictEntry} {ep : Nat} : Plain a (RawD a es ep) := ⟨(fun _ z => by unfold RawD at z; cases z), (fun _ _ z => by unfold RawD at z; cases z), (fun _ z => by unfold RawD at z; cases z), fun _ => rawD_code⟩
theorem plain_exc {a C dx : Addr} : Plain a (ExcH a C dx) := ⟨(fun _ z => by unfold ExcH at z; cases z), (fun _ _ z => by unfold ExcH at z; cases z), (fun _ z => by unfold ExcH at z; cases z), fun _ => excH_code⟩
theorem tabs_upd {T : List (Addr × Str)} {H : Hp} {d : Addr} {u u' : HO} (t : LamX.Tabs T H) (hd : H d = some u) (p : Plain d u) : LamX.Tabs T (upd H d u') := fun q hq => by
  obtain ⟨ps, h1, h2, h3⟩ := t q hq
  refine ⟨ps, by rw [upd_ne (fun z => by rw [z, hd] at h1; exact p.tbl ps (Option.some.inj h1))]; exact h1, h2, fun pos cv hc => ?_⟩
  obtain ⟨c, e1, e2⟩ := h3 pos cv hc
  exact ⟨c, e1, by rw [upd_ne (fun z => by rw [z, hd] at e2; exact p.code _ (Option.some.inj e2))]; exact e2⟩
theorem tabs_new {T : List (Addr × Str)} {H : Hp} {d : Addr} {u' : HO} (t : LamX.Tabs T H) (hd : H d = none) : LamX.Tabs T (upd H d u') := t.ext fun b o e => by rw [upd_ne (ne_of_none e hd)]; exact e

/-- the hash of a key -/
def hashK (w : World) : Nat → D → Int
  | 0, _ => 0
  | n + 1, d => match d with
    | .int i => hashInt i
    | .str s => hashStr w s
    | .tup xs => reduceHash (Builtin.Tuple.tupleHashOf (xs.map (hashK w n)))
    | _ => 0

section
variable (K : PySem.W.Frag) (w : World) (ca : Ca)
mutual
inductive RV (μ : List Addr) (H : Hp) : D → V → Prop
  | non : RV μ H .non .non
  | bl (b : Bool) : RV μ H (.bl b) (.bl b)
  | int (i : Int) : RV μ H (.int i) (.int i)
  | str (s : Str) : RV μ H (.str s) (.str s)
  | tup {a : Addr} {vs : List V} {ds : List D} : SqT K H a vs → RVs μ H ds vs → RV μ H (.tup ds) (.ref a)
  | frz {a : Addr} {vs : List V} {ds : List D} : SqF K H a vs → RVs μ H ds vs → RV μ H (.frz ds) (.ref a)
  | ref {n : Nat} {a : Addr} : μ[n]? = some a → RV μ H (.ref n) (.ref a)
inductive RVs (μ : List Addr) (H : Hp) : List D → List V → Prop
  | nil : RVs μ H [] []
  | cons {d : D} {v : V} {ds : List D} {vs : List V} : RV μ H d v → RVs μ H ds vs → RVs μ H (d :: ds) (v :: vs)
end
/-- an entry of a dict -/
structure EntR (μ : List Addr) (H : Hp) (p : D × D) (e : DictEntry) : Prop where
  hash : e.hash = hashK w 8 p.1
  ok : keyOk 6 p.1 = true
  key : ∃ k, RelV k e.key ∧ RV K μ H p.1 k
  val : ∃ v, RelV v e.val ∧ RV K μ H p.2 v
def RO (μ : List Addr) (H : Hp) (o : O) (a : Addr) : Prop := match o with
  | .lst xs => ∃ vs, H a = some (.lst vs) ∧ RVs K μ H xs vs
  | .dic kvs ep => ∃ es, H a = some (RawD a es ep) ∧ (a == sysModules) = false ∧ kvs.length ≤ sizeLine ∧ (kvs.map (·.1)).Nodup ∧ Paired (EntR K w μ H) kvs es.toList
  | .exc c v => ∃ dx x, H a = some (ExcH a (ca c) dx) ∧ H dx = some (.xd [(("value" : Str), x)]) ∧ dx ∉ μ ∧ RV K μ H v x
structure RS (μ : List Addr) (st : Sto) (H : Hp) : Prop where
  len : μ.length = st.length
  nd : μ.Nodup
  at_ : ∀ (n : Nat) (o : O) (a : Addr), st[n]? = some o → μ[n]? = some a → RO K w ca μ H o a
  tab : LamX.Tabs ca.T H
/-- what may have happened: more objects, the tracked ones apart from the store's as they were -/
structure Xt (μ : List Addr) (H : Hp) (μ' : List Addr) (H' : Hp) : Prop where
  pre : ∃ t, μ' = μ ++ t ∧ ∀ a ∈ t, a ∉ μ → ∀ o, H a = some o → ∃ ps, o = .tbl ps
  keep : ∀ a o, H a = some o → a ∉ μ → (∀ ps, o ≠ .tbl ps) → H' a = some o
  tup : ∀ a vs, SqT K H a vs → SqT K H' a vs
  frz : ∀ a vs, SqF K H a vs → SqF K H' a vs
/-- the slots -/
structure RE (μ : List Addr) (H : Hp) (env : Sl) (σ : L2.St) : Prop where
  len : env.length = σ.length
  at_ : ∀ (i : Nat) (d : D), env[i]? = some (some d) → ∃ v, σ[i]? = some (some v) ∧ RV K μ H d v
end

section
variable {K : PySem.W.Frag} {w : World} {ca : Ca} {μ μ' μ'' : List Addr} {H H' H'' : Hp} {st st' : Sto}

theorem Xt.refl : Xt K μ H μ H := ⟨⟨[], by simp, by simp⟩, fun _ _ h _ _ => h, fun _ _ h => h, fun _ _ h => h⟩
theorem Xt.out (x : Xt K μ H μ' H') {a : Addr} {o : HO} (h : H a = some o) (nt : ∀ ps, o ≠ .tbl ps) (n : a ∉ μ) : a ∉ μ' := fun hm => by
  obtain ⟨t, e, ht⟩ := x.pre
  rw [e] at hm
  rcases List.mem_append.mp hm with hm | hm
  · exact n hm
  · obtain ⟨ps, z⟩ := ht a hm n o h
    exact nt ps z
theorem Xt.trans (x : Xt K μ H μ' H') (y : Xt K μ' H' μ'' H'') : Xt K μ H μ'' H'' := by
  refine ⟨?_, fun a o h n nt => y.keep a o (x.keep a o h n nt) (x.out h nt n) nt, fun a vs h => y.tup a vs (x.tup a vs h), fun a vs h => y.frz a vs (x.frz a vs h)⟩
  obtain ⟨t, e, ht⟩ := id x.pre
  obtain ⟨u, e2, hu⟩ := y.pre
  subst e e2
  refine ⟨t ++ u, by simp, fun a ha n o ho => ?_⟩
  by_cases hm : a ∈ t
  · exact ht a hm n o ho
  · have ha' : a ∈ u := (List.mem_append.mp ha).elim (fun z => absurd z hm) id
    have n' : a ∉ μ ++ t := fun q => (List.mem_append.mp q).elim n hm
    by_cases nt : ∃ ps, o = .tbl ps
    · exact nt
    · exact hu a ha' n' o (x.keep a o ho n fun ps z => nt ⟨ps, z⟩)
theorem Xt.get (x : Xt K μ H μ' H') {n : Nat} {a : Addr} (h : μ[n]? = some a) : μ'[n]? = some a := by
  obtain ⟨⟨t, rfl, _⟩, _, _, _⟩ := x
  rw [List.getElem?_append_left (List.getElem?_eq_some_iff.mp h).1]
  exact h
mutual
theorem RV.mono (x : Xt K μ H μ' H') : ∀ {d : D} {v : V}, RV K μ H d v → RV K μ' H' d v
  | _, _, .non => .non
  | _, _, .bl b => .bl b
  | _, _, .int i => .int i
  | _, _, .str s => .str s
  | _, _, .tup h hs => .tup (x.tup _ _ h) (RVs.mono x hs)
  | _, _, .frz h hs => .frz (x.frz _ _ h) (RVs.mono x hs)
  | _, _, .ref h => .ref (x.get h)
theorem RVs.mono (x : Xt K μ H μ' H') : ∀ {ds : List D} {vs : List V}, RVs K μ H ds vs → RVs K μ' H' ds vs
  | _, _, .nil => .nil
  | _, _, .cons h hs => .cons (RV.mono x h) (RVs.mono x hs)
end
theorem RE.mono (x : Xt K μ H μ' H') {env : Sl} {σ : L2.St} (h : RE K μ H env σ) : RE K μ' H' env σ :=
  ⟨h.len, fun i d e => let ⟨v, h1, h2⟩ := h.at_ i d e; ⟨v, h1, h2.mono x⟩⟩
theorem EntR.mono (x : Xt K μ H μ' H') {p : D × D} {e : DictEntry} (h : EntR K w μ H p e) : EntR K w μ' H' p e :=
  ⟨h.hash, h.ok, let ⟨k, a, b⟩ := h.key; ⟨k, a, b.mono x⟩, let ⟨k, a, b⟩ := h.val; ⟨k, a, b.mono x⟩⟩
theorem RVs.length : ∀ {ds : List D} {vs : List V}, RVs K μ H ds vs → ds.length = vs.length
  | _, _, .nil => rfl
  | _, _, .cons _ hs => by simp [RVs.length hs]
theorem RVs.append : ∀ {ds es : List D} {vs us : List V}, RVs K μ H ds vs → RVs K μ H es us → RVs K μ H (ds ++ es) (vs ++ us)
  | _, _, _, _, .nil, h => h
  | _, _, _, _, .cons h hs, k => .cons h (RVs.append hs k)
theorem RVs.get : ∀ {ds : List D} {vs : List V}, RVs K μ H ds vs → ∀ {i : Nat} {d : D}, ds[i]? = some d → ∃ v, vs[i]? = some v ∧ RV K μ H d v
  | _, _, .nil, _, _, e => by simp at e
  | _, _, .cons h _, 0, _, e => by simp at e; subst e; exact ⟨_, rfl, h⟩
  | _, _, .cons _ hs, i + 1, d, e => by
    obtain ⟨v, h1, h2⟩ := RVs.get hs (i := i) (d := d) (by simpa using e)
    exact ⟨v, by simpa using h1, h2⟩
theorem RVs.take : ∀ {ds : List D} {vs : List V} (n : Nat), RVs K μ H ds vs → RVs K μ H (ds.take n) (vs.take n)
  | _, _, 0, _ => by simpa using RVs.nil
  | _, _, _ + 1, .nil => .nil
  | _, _, n + 1, .cons h hs => .cons h (RVs.take n hs)
theorem RVs.drop : ∀ {ds : List D} {vs : List V} (n : Nat), RVs K μ H ds vs → RVs K μ H (ds.drop n) (vs.drop n)
  | _, _, 0, h => h
  | _, _, _ + 1, .nil => .nil
  | _, _, n + 1, .cons _ hs => RVs.drop n hs
theorem RVs.set : ∀ {ds : List D} {vs : List V} {d : D} {v : V} (n : Nat), RVs K μ H ds vs → RV K μ H d v → RVs K μ H (ds.set n d) (vs.set n v)
  | _, _, _, _, _, .nil, _ => .nil
  | _, _, _, _, 0, .cons _ hs, k => .cons k hs
  | _, _, _, _, n + 1, .cons h hs, k => .cons h (RVs.set n hs k)
theorem RVs.rep {ds : List D} {vs : List V} (h : RVs K μ H ds vs) : ∀ n : Nat, RVs K μ H (List.replicate n ds).flatten (List.replicate n vs).flatten
  | 0 => .nil
  | n + 1 => by
    rw [List.replicate_succ, List.replicate_succ, List.flatten_cons, List.flatten_cons]
    exact h.append (RVs.rep h n)
theorem RVs.dropLast {ds : List D} {vs : List V} (h : RVs K μ H ds vs) : RVs K μ H ds.dropLast vs.dropLast := by
  rw [List.dropLast_eq_take, List.dropLast_eq_take, ← h.length]
  exact h.take _
theorem RVs.ints : ∀ {ds : List D} {vs : List V} {is : List Int}, RVs K μ H ds vs → ints? ds = some is → vs = is.map V.int
  | _, _, _, .nil, e => by simp [ints?, seqOpt] at e; subst e; rfl
  | d :: ds, _, is, .cons h hs, e => by
    cases h <;> simp [ints?, seqOpt, isInt] at e
    rename_i i
    cases e2 : seqOpt isInt ds with
    | none => simp [e2] at e
    | some js =>
      simp [e2] at e
      subst e
      rw [RVs.ints hs (is := js) e2]
      rfl
/-- what stands in the store is tracked, and is no tuple, no table -/
theorem RO.some {o : O} {a : Addr} (h : RO K w ca μ H o a) : ∃ u, H a = some u ∧ Plain a u := by
  cases o with
  | lst xs => obtain ⟨vs, e, _⟩ := h; exact ⟨_, e, plain_lst⟩
  | dic kvs ep => obtain ⟨es, e, _⟩ := h; exact ⟨_, e, plain_raw⟩
  | exc c v => obtain ⟨dx, x, e, _⟩ := h; exact ⟨_, e, plain_exc⟩
theorem RS.obj (rs : RS K w ca μ st H) {n : Nat} {a : Addr} (h : μ[n]? = some a) : ∃ o, st[n]? = some o ∧ RO K w ca μ H o a := by
  have hl : n < st.length := by rw [← rs.len]; exact (List.getElem?_eq_some_iff.mp h).1
  exact ⟨st[n], List.getElem?_eq_getElem hl, rs.at_ n _ a (List.getElem?_eq_getElem hl) h⟩
theorem RS.addr (rs : RS K w ca μ st H) {n : Nat} {o : O} (h : st[n]? = some o) : ∃ a, μ[n]? = some a ∧ RO K w ca μ H o a := by
  have hl : n < μ.length := by rw [rs.len]; exact (List.getElem?_eq_some_iff.mp h).1
  exact ⟨μ[n], List.getElem?_eq_getElem hl, rs.at_ n o _ h (List.getElem?_eq_getElem hl)⟩
theorem RS.mem (rs : RS K w ca μ st H) {a : Addr} (h : a ∈ μ) : ∃ u, H a = some u ∧ Plain a u := by
  obtain ⟨n, hn⟩ := List.mem_iff_getElem?.mp h
  obtain ⟨o, _, r⟩ := rs.obj hn
  exact r.some
theorem RS.fresh (rs : RS K w ca μ st H) {p : Addr} (h : H p = none) : p ∉ μ := fun hm => by
  obtain ⟨u, e, _⟩ := rs.mem hm
  rw [h] at e; cases e
/-- a reference's object -/
theorem RS.ref (rs : RS K w ca μ st H) {n : Nat} {v : V} {o : O} (h : RV K μ H (.ref n) v) (e : st[n]? = some o) : ∃ a, v = .ref a ∧ μ[n]? = some a ∧ RO K w ca μ H o a := by
  cases h with
  | ref hn => exact ⟨_, rfl, hn, rs.at_ n o _ e hn⟩

theorem sqt_new {p : Addr} {o : HO} (hp : H p = none) {a : Addr} {vs : List V} (h : SqT K H a vs) : SqT K (upd H p o) a vs := by
  rcases h with (h | ⟨u, h⟩) | h
  · exact .inl (.inl (by rw [upd_ne (ne_of_none h hp)]; exact h))
  · exact .inl (.inr ⟨u, by rw [upd_ne (ne_of_none h hp)]; exact h⟩)
  · exact .inr h
theorem sqf_new {p : Addr} {o : HO} (hp : H p = none) {a : Addr} {vs : List V} (h : SqF K H a vs) : SqF K (upd H p o) a vs := by
  rcases h with ⟨u, h⟩ | h
  · exact .inl ⟨u, by rw [upd_ne (ne_of_none h hp)]; exact h⟩
  · exact .inr h
theorem Xt.new {p : Addr} {o : HO} (hp : H p = none) : Xt K μ H μ (upd H p o) :=
  ⟨⟨[], by simp, by simp⟩, fun a u h _ _ => by rw [upd_ne (ne_of_none h hp)]; exact h, fun a vs h => sqt_new hp h, fun a vs h => sqf_new hp h⟩
theorem Xt.lay {p : Addr} {o : HO} (hp : H p = none) : Xt K μ H (μ ++ [p]) (upd H p o) :=
  ⟨⟨[p], rfl, fun a ha _ o ho => by rw [List.mem_singleton.mp ha, hp] at ho; cases ho⟩, fun a u h _ _ => by rw [upd_ne (ne_of_none h hp)]; exact h, fun a vs h => sqt_new hp h, fun a vs h => sqf_new hp h⟩
theorem sqt_plain {a : Addr} {u o : HO} (e : H a = some u) (p : Plain a u) {b : Addr} {vs : List V} (h : SqT K H b vs) : SqT K (upd H a o) b vs := by
  rcases h with (h | ⟨ob, h⟩) | h
  · exact .inl (.inl (by rw [upd_ne (fun z => by rw [z, e] at h; exact p.tup vs (Option.some.inj h))]; exact h))
  · exact .inl (.inr ⟨ob, by rw [upd_ne (fun z => by rw [z, e] at h; exact p.frz ob _ (Option.some.inj h))]; exact h⟩)
  · exact .inr h
theorem sqf_plain {a : Addr} {u o : HO} (e : H a = some u) (p : Plain a u) {b : Addr} {vs : List V} (h : SqF K H b vs) : SqF K (upd H a o) b vs := by
  rcases h with ⟨ob, h⟩ | h
  · exact .inl ⟨ob, by rw [upd_ne (fun z => by rw [z, e] at h; exact p.frz ob _ (Option.some.inj h))]; exact h⟩
  · exact .inr h
theorem RS.put_xt (rs : RS K w ca μ st H) {a : Addr} {o : HO} (ha : a ∈ μ) : Xt K μ H μ (upd H a o) := by
  obtain ⟨u, e, p⟩ := rs.mem ha
  exact ⟨⟨[], by simp, by simp⟩, fun b u' h n _ => by rw [upd_ne (fun z => n (by rw [z]; exact ha))]; exact h, fun b vs h => sqt_plain e p h, fun b vs h => sqf_plain e p h⟩
theorem Paired.map2 {α β : Type} {F G : α → β → Prop} : ∀ {l₁ : List α} {l₂ : List β}, Paired F l₁ l₂ → (∀ a b, F a b → G a b) → Paired G l₁ l₂
  | _, _, .nil, _ => .nil
  | _, _, .cons r t, f => .cons (f _ _ r) (Paired.map2 t f)
theorem RO.mono (x : Xt K μ H μ' H') {o : O} {a : Addr} (h : RO K w ca μ H o a) (ha : H' a = H a) : RO K w ca μ' H' o a := by
  cases o with
  | lst xs => obtain ⟨vs, e, r⟩ := h; exact ⟨vs, ha.trans e, r.mono x⟩
  | dic kvs ep => obtain ⟨es, e, h1, h2, h3, r⟩ := h; exact ⟨es, ha.trans e, h1, h2, h3, Paired.map2 r fun _ _ z => z.mono x⟩
  | exc c v =>
    obtain ⟨dx, y, e, hd, hn, r⟩ := h
    exact ⟨dx, y, ha.trans e, x.keep dx _ hd hn (fun _ z => HO.noConfusion z), x.out hd (fun _ z => HO.noConfusion z) hn, r.mono x⟩
theorem RS.new (rs : RS K w ca μ st H) {p : Addr} {o : HO} (hp : H p = none) : RS K w ca μ st (upd H p o) :=
  ⟨rs.len, rs.nd, fun n u a e1 e2 => (rs.at_ n u a e1 e2).mono (.new hp) (upd_ne fun z => rs.fresh hp (z ▸ List.mem_of_getElem? e2)), tabs_new rs.tab hp⟩
/-- a new object of the store -/
theorem RS.lay (rs : RS K w ca μ st H) {p : Addr} {ho : HO} {o : O} (hp : H p = none) (r : RO K w ca (μ ++ [p]) (upd H p ho) o p) : RS K w ca (μ ++ [p]) (st ++ [o]) (upd H p ho) := by
  refine ⟨by simp [rs.len], ?_, fun n u a e1 e2 => ?_, tabs_new rs.tab hp⟩
  · rw [List.nodup_append]
    exact ⟨rs.nd, by simp, fun a ha b hb z => by rw [List.mem_singleton.mp hb] at z; exact rs.fresh hp (z ▸ ha)⟩
  · by_cases hn : n < μ.length
    · rw [List.getElem?_append_left hn] at e2
      rw [List.getElem?_append_left (by rw [← rs.len]; exact hn)] at e1
      exact (rs.at_ n u a e1 e2).mono (.lay hp) (upd_ne fun z => rs.fresh hp (z ▸ List.mem_of_getElem? e2))
    · have hn' : μ.length = n := by
        have := (List.getElem?_eq_some_iff.mp e2).1
        simp at this
        omega
      subst hn'
      rw [List.getElem?_append_right (Nat.le_refl _)] at e2
      rw [rs.len, List.getElem?_append_right (Nat.le_refl _)] at e1
      simp at e1 e2
      subst e1 e2
      exact r
/-- an object of the store is written -/
theorem RS.put (rs : RS K w ca μ st H) {n : Nat} {a : Addr} {ho : HO} {o : O} (hn : μ[n]? = some a) (r : RO K w ca μ (upd H a ho) o a) : RS K w ca μ (st.set n o) (upd H a ho) := by
  have ha : a ∈ μ := List.mem_of_getElem? hn
  obtain ⟨u0, e0, p0⟩ := rs.mem ha
  refine ⟨by simp [rs.len], rs.nd, fun m u b e1 e2 => ?_, tabs_upd rs.tab e0 p0⟩
  by_cases hm : n = m
  · subst hm
    rw [hn] at e2; cases e2
    rw [List.getElem?_set_self (by rw [← rs.len]; exact (List.getElem?_eq_some_iff.mp hn).1)] at e1
    cases e1
    exact r
  · rw [List.getElem?_set_ne hm] at e1
    refine (rs.at_ m u b e1 e2).mono (rs.put_xt ha) (upd_ne fun z => hm ?_)
    rw [z] at e2
    obtain ⟨h1, q1⟩ := List.getElem?_eq_some_iff.mp hn
    obtain ⟨h2, q2⟩ := List.getElem?_eq_some_iff.mp e2
    exact (List.getElem_inj rs.nd).mp (q1.trans q2.symm)
end

/-! ### what is wanted behind a term -/
section
variable (K : PySem.W.Frag) (w : World) (ca : Ca) (W : XK)
def Po {α β : Type} (R : List Addr → Hp → α → β → Prop) (μ : List Addr) (H : Hp) (o : Out α) (Q : β → Hp → Prop) : Prop := match o with
  | .ok a st => ∀ μ' H' b, Xt K μ H μ' H' → RS K w ca μ' st H' → R μ' H' a b → Q b H'
  | .exc c v st => ∀ μ' H' dx x, Xt K μ H μ' H' → RS K w ca μ' st H' → H' dx = some (.xd [(("value" : Str), x)]) → dx ∉ μ' → RV K μ' H' v x → W (.ref (ca c)) (some dx) H'
  | .no => False
/-- a term's reading -/
def rd {α β : Type} (R : List Addr → Hp → α → β → Prop) (m : Sl → M α) : L2.St → Hp → (β → Hp → Prop) → Prop := fun σ H Q =>
  ∃ μ env st, RS K w ca μ st H ∧ RE K μ H env σ ∧ Po K w ca W R μ H (m env st) Q
/-- .. of values alone -/
def rdv {α β : Type} (R : List Addr → Hp → α → β → Prop) (P : List Addr → Hp → M α → Prop) : Hp → (β → Hp → Prop) → Prop := fun H Q =>
  ∃ μ st m, RS K w ca μ st H ∧ P μ H m ∧ Po K w ca W R μ H (m st) Q
end
section
variable {K : PySem.W.Frag} {w : World} {ca : Ca} {W : XK} {μ μ' : List Addr} {H H' : Hp} {α β γ δ : Type} {R : List Addr → Hp → α → β → Prop} {R' : List Addr → Hp → γ → δ → Prop}
theorem Po.shift (x : Xt K μ H μ' H') {o : Out α} {Q : β → Hp → Prop} (h : Po K w ca W R μ H o Q) : Po K w ca W R μ' H' o Q := by
  cases o with
  | ok a st => exact fun μ2 H2 b y => h μ2 H2 b (x.trans y)
  | exc c v st => exact fun μ2 H2 dx z y => h μ2 H2 dx z (x.trans y)
  | no => exact h
theorem Po.bi {o : Out α} {f : α → M γ} {Q : δ → Hp → Prop} {Q1 : β → Hp → Prop} (h : Po K w ca W R' μ H (o.bind f) Q)
    (k : ∀ a st1 μ1 H1 b, o = .ok a st1 → Xt K μ H μ1 H1 → RS K w ca μ1 st1 H1 → R μ1 H1 a b → Po K w ca W R' μ1 H1 (f a st1) Q → Q1 b H1) : Po K w ca W R μ H o Q1 := by
  cases o with
  | ok a st => exact fun μ2 H2 b y rs r => k a st μ2 H2 b rfl y rs r (Po.shift y h)
  | exc c v st => exact h
  | no => exact h
theorem Po.here {a : α} {b : β} {st : Sto} {Q : β → Hp → Prop} (h : Po K w ca W R μ H (.ok a st) Q) (rs : RS K w ca μ st H) (r : R μ H a b) : Q b H := h μ H b .refl rs r
end
theorem _root_.L2.PE.imp {X : Cx} {e : Expr} {t t' : TE} (h : PE X e t) (k : ∀ σ H Q, t' σ H Q → t σ H Q) : PE X e t' := ⟨fun pins s σ H Q I q => h.run pins s σ H Q I (k σ H Q q)⟩
theorem _root_.L2.PT.imp {X : Cx} {e : Expr} {t t' : TT} (h : PT X e t) (k : ∀ σ H Q, t' σ H Q → t σ H Q) : PT X e t' := ⟨fun pins s σ H Q I q => h.run pins s σ H Q I (k σ H Q q)⟩
theorem _root_.L2.PA.imp {X : Cx} {e : List Expr} {t t' : TA} (h : PA X e t) (k : ∀ σ H Q, t' σ H Q → t σ H Q) : PA X e t' := ⟨fun pos pins s σ H Q I q => h.run pos pins s σ H Q I (k σ H Q q)⟩
theorem _root_.L2.PS.imp {X : Cx} {e : Stmt} {t t' : TS} (h : PS X e t) (k : ∀ D σ H, t' D σ H → t D σ H) : PS X e t' := ⟨fun pins s σ H D I q => h.run pins s σ H D I (k D σ H q)⟩
theorem _root_.L2.PSs.imp {X : Cx} {e : List Stmt} {t t' : TS} (h : PSs X e t) (k : ∀ D σ H, t' D σ H → t D σ H) : PSs X e t' := ⟨fun pins s σ H D I q => h.run pins s σ H D I (k D σ H q)⟩

/-! ### data -/
section
variable {K : PySem.W.Frag} {w : World} {ca : Ca} {μ : List Addr} {H : Hp} {st : Sto}
theorem snaps_dp (n : Nat) (ih : ∀ d v p, RV K μ H d v → snap st n d = some p → Dp K H v p) : ∀ {ds : List D} {vs : List V} {ps : List PyData}, RVs K μ H ds vs → seqOpt (snap st n) ds = some ps → DpAll K H vs ps
  | _, _, _, .nil, e => by simp [seqOpt] at e; subst e; exact .nil
  | d :: ds, _, ps, .cons h hs, e => by
    unfold seqOpt at e
    cases e1 : snap st n d with
    | none => simp [e1] at e
    | some q =>
      cases e2 : seqOpt (snap st n) ds with
      | none => simp [e1, e2] at e
      | some qs =>
        simp [e1, e2] at e
        subst e
        exact .cons (ih _ _ _ h e1) (snaps_dp n ih hs e2)
theorem snap_dp (rs : RS K w ca μ st H) : ∀ (n : Nat) (d : D) (v : V) (p : PyData), RV K μ H d v → snap st n d = some p → Dp K H v p
  | 0, _, _, _, _, e => by simp [snap] at e
  | n + 1, d, v, p, h, e => by
    unfold snap at e
    cases h with
    | non => cases e; exact .non
    | bl b => cases e; exact .bl b
    | int i => cases e; exact .int i
    | str s =>
      simp only at e
      split at e
      · cases e; exact .str s
      · cases e
    | tup hs hr =>
      rename_i a vs ds
      cases e2 : seqOpt (snap st n) ds with
      | none => simp [e2] at e
      | some qs =>
        simp [e2] at e
        subst e
        exact .tup hs (snaps_dp n (snap_dp rs n) hr e2)
    | frz hs hr =>
      rename_i a vs ds
      cases e2 : seqOpt (snap st n) ds with
      | none => simp [e2] at e
      | some qs =>
        simp [e2] at e
        subst e
        exact .lst hs.sq (snaps_dp n (snap_dp rs n) hr e2)
    | ref hn =>
      rename_i k a
      obtain ⟨o, ho, r⟩ := rs.obj hn
      simp only [ho] at e
      cases o with
      | lst xs =>
        obtain ⟨vs, e3, hr⟩ := r
        cases e2 : seqOpt (snap st n) xs with
        | none => simp [e2] at e
        | some qs =>
          simp [e2] at e
          subst e
          exact .lst (.of e3) (snaps_dp n (snap_dp rs n) hr e2)
      | dic kvs ep => simp at e
      | exc c v => simp at e
theorem seqOpt_depth (n : Nat) (ih : ∀ d p, snap st n d = some p → p.depth ≤ n ∧ p.canLay0 = true) : ∀ {ds : List D} {ps : List PyData}, seqOpt (snap st n) ds = some ps → PyData.depthAll ps ≤ n ∧ PyData.canLayAll0 ps = true
  | [], _, e => by simp [seqOpt] at e; subst e; simp [PyData.depthAll, PyData.canLayAll0]
  | d :: ds, ps, e => by
    unfold seqOpt at e
    cases e1 : snap st n d with
    | none => simp [e1] at e
    | some q =>
      cases e2 : seqOpt (snap st n) ds with
      | none => simp [e1, e2] at e
      | some qs =>
        simp [e1, e2] at e
        subst e
        obtain ⟨a, b⟩ := ih _ _ e1
        obtain ⟨c, f⟩ := seqOpt_depth n ih e2
        simp only [PyData.depthAll, PyData.canLayAll0, b, f, Bool.and_self, and_true]
        omega
theorem snap_depth : ∀ (n : Nat) (d : D) (p : PyData), snap st n d = some p → p.depth ≤ n ∧ p.canLay0 = true
  | 0, _, _, e => by simp [snap] at e
  | n + 1, d, p, e => by
    unfold snap at e
    have seq : ∀ {xs : List D} {qs : List PyData}, seqOpt (snap st n) xs = some qs → PyData.depthAll qs ≤ n ∧ PyData.canLayAll0 qs = true := fun h => seqOpt_depth n (snap_depth n) h
    cases d with
    | non => cases e; simp [PyData.depth, PyData.canLay0]
    | bl b => cases e; simp [PyData.depth, PyData.canLay0]
    | int i => cases e; simp [PyData.depth, PyData.canLay0]
    | str s =>
      simp only at e
      split at e
      · rename_i h
        cases e
        simp only [PyData.depth, PyData.canLay0, PyData.strOk]
        exact ⟨Nat.zero_le _, h⟩
      · cases e
    | tup xs =>
      cases e2 : seqOpt (snap st n) xs with
      | none => simp [e2] at e
      | some qs =>
        simp [e2] at e
        subst e
        obtain ⟨a, b⟩ := seq e2
        simp only [PyData.depth, PyData.canLay0, b, and_true]
        omega
    | frz xs =>
      cases e2 : seqOpt (snap st n) xs with
      | none => simp [e2] at e
      | some qs =>
        simp [e2] at e
        subst e
        obtain ⟨a, b⟩ := seq e2
        simp only [PyData.depth, PyData.canLay0, b, and_true]
        omega
    | ref k =>
      simp only at e
      split at e
      · rename_i xs _
        cases e2 : seqOpt (snap st n) xs with
        | none => simp [e2] at e
        | some qs =>
          simp [e2] at e
          subst e
          obtain ⟨a, b⟩ := seq e2
          simp only [PyData.depth, PyData.canLay0, b, and_true]
          omega
      · cases e
theorem snap_shaped {n : Nat} (hn : n ≤ 64) {d : D} {p : PyData} (e : snap st n d = some p) : SeqAt.shaped p = true := by
  obtain ⟨a, b⟩ := snap_depth n d p e
  show (p.canLay0 && decide (p.depth ≤ 64)) = true
  rw [b, Bool.true_and, decide_eq_true_eq]
  omega
end
end Mi

set_option Elab.async false
set_option linter.all false
set_option maxRecDepth 100000
set_option maxHeartbeats 1000000
/-! Mi, part C: operators by values. -/
namespace Mi
open PySem PySem.Spec PyProof.Rows L2
section
variable {X : Cx} {ca : Ca} {W : XK}
abbrev rBin (X : Cx) (ca : Ca) (W : XK) (o : Bop) : R2 := fun vx vy H Q => ∃ μ st x y, RS X.K X.w ca μ st H ∧ RV X.K μ H x vx ∧ RV X.K μ H y vy ∧ Po X.K X.w ca W (RV X.K) μ H (binD o x y st) Q
abbrev rCmp (X : Cx) (ca : Ca) (W : XK) (o : Cop) : R2 := fun vx vy H Q => ∃ μ st x y, RS X.K X.w ca μ st H ∧ RV X.K μ H x vx ∧ RV X.K μ H y vy ∧ Po X.K X.w ca W (RV X.K) μ H (cmpD o x y st) Q

/-- a new list of the store -/
theorem Po.newL {K : PySem.W.Frag} {w : World} {μ : List Addr} {H : Hp} {st : Sto} {xs : List D} {vs : List V} {Q : VK} (h : Po K w ca W (RV K) μ H (Mi.newL xs st) Q) (rs : RS K w ca μ st H) (r : RVs K μ H xs vs) :
    xs.length ≤ sizeLine ∧ ∀ p, H p = none → Q (.ref p) (upd H p (.lst vs)) := by
  unfold Mi.newL at h
  split at h
  · rename_i hl
    rw [lim_eq] at hl
    refine ⟨hl, fun p hp => ?_⟩
    exact h (μ ++ [p]) _ _ (.lay hp) (rs.lay hp ⟨vs, upd_same, r.mono (.lay hp)⟩) (.ref (by rw [← rs.len]; simp))
  · exact False.elim h
/-- a new tuple -/
theorem Po.newU {K : PySem.W.Frag} {w : World} {μ : List Addr} {H : Hp} {st : Sto} {xs : List D} {vs : List V} {Q : VK} (h : Po K w ca W (RV K) μ H (.ok (.tup xs) st) Q) (rs : RS K w ca μ st H) (r : RVs K μ H xs vs) :
    ∀ p, H p = none → Q (.ref p) (upd H p (.tup vs)) := fun p hp =>
  h μ _ _ (.new hp) (rs.new hp) (.tup (SqT.of upd_same) (r.mono (.new hp)))
theorem Po.oldU {K : PySem.W.Frag} {w : World} {μ : List Addr} {H : Hp} {st : Sto} {xs : List D} {vs : List V} {a : Addr} {Q : VK} (h : Po K w ca W (RV K) μ H (.ok (.tup xs) st) Q) (rs : RS K w ca μ st H) (r : RVs K μ H xs vs) (ha : SqT K H a vs) : Q (.ref a) H :=
  h μ _ _ .refl rs (.tup ha r)
theorem RVs.nil_iff {K : PySem.W.Frag} {μ : List Addr} {H : Hp} {xs : List D} {vs : List V} (r : RVs K μ H xs vs) : xs = [] ↔ vs = [] := by
  cases r <;> simp

theorem opr_add : OpR X (binaryOp .Add) (rBin X ca W .add) := by
  intro pins s σ H vx vy v u Q I rx ry ⟨μ, st, x, y, rs, hx, hy, h⟩
  cases hx with
  | int i => cases hy with
    | int j => exact op_add pins s σ H _ _ v u Q I rx ry ⟨i, j, rfl, rfl, h.here rs (.int _)⟩
    | _ => exact False.elim h
  | str i => cases hy with
    | str j =>
      simp only [binD] at h
      split at h
      · rename_i hl
        rw [lim_eq] at hl
        exact op_add_str pins s σ H _ _ v u Q I rx ry ⟨i, j, rfl, rfl, hl, h.here rs (.str _)⟩
      · exact False.elim h
    | _ => exact False.elim h
  | tup ha hxs => cases hy with
    | tup hb hys =>
      rename_i a vs ds b us es
      simp only [binD] at h
      split at h
      · rename_i hl
        rw [lim_eq, hxs.length, hys.length] at hl
        refine op_catA pins s σ H _ _ v u Q I rx ry ⟨a, b, vs, us, rfl, rfl, ha, hb, hl, fun e => ?_, fun e1 e2 => ?_, fun _ _ => h.newU rs (hxs.append hys)⟩
        · have e' := hxs.nil_iff.mpr e
          subst e'
          exact h.oldU rs hys hb
        · have e' := hys.nil_iff.mpr e2
          subst e'
          rw [List.append_nil] at h
          exact h.oldU rs hxs ha
      · exact False.elim h
    | _ => exact False.elim h
  | ref hn => cases hy with
    | ref hm =>
      rename_i n a m b
      obtain ⟨oa, ea, ra⟩ := rs.obj hn
      obtain ⟨ob, eb, rb⟩ := rs.obj hm
      simp only [binD, ea, eb] at h
      cases oa with
      | lst xs => cases ob with
        | lst ys =>
          obtain ⟨vs, e1, r1⟩ := ra
          obtain ⟨us, e2, r2⟩ := rb
          obtain ⟨hl, q⟩ := Po.newL h rs (r1.append r2)
          rw [List.length_append, r1.length, r2.length] at hl
          exact op_cat pins s σ H _ _ v u Q I rx ry ⟨a, b, vs, us, rfl, rfl, e1, e2, hl, q⟩
        | _ => exact False.elim h
      | _ => exact False.elim h
    | _ => exact False.elim h
  | _ => cases hy <;> exact False.elim h
theorem opr_sub : OpR X (binaryOp .Sub) (rBin X ca W .sub) := by
  intro pins s σ H vx vy v u Q I rx ry ⟨μ, st, x, y, rs, hx, hy, h⟩
  cases hx with
  | int i => cases hy with
    | int j => exact op_sub pins s σ H _ _ v u Q I rx ry ⟨i, j, rfl, rfl, h.here rs (.int _)⟩
    | _ => exact False.elim h
  | _ => cases hy <;> exact False.elim h
theorem small_iff {i : Int} (h : small i = true) : -(2 ^ 62) ≤ i ∧ i < 2 ^ 62 := by
  unfold small at h
  simp only [Bool.and_eq_true, decide_eq_true_eq] at h
  exact h
theorem flat_len {α : Type} (n : Nat) (xs : List α) : (List.replicate n xs).flatten.length = xs.length * n := by
  induction n with
  | zero => simp
  | succ n ih => rw [List.replicate_succ, List.flatten_cons, List.length_append, ih, Nat.mul_succ]; omega
theorem opr_mul : OpR X (binaryOp .Mult) (rBin X ca W .mul) := by
  intro pins s σ H vx vy v u Q I rx ry ⟨μ, st, x, y, rs, hx, hy, h⟩
  cases hx with
  | int i => cases hy with
    | int j =>
      simp only [binD] at h
      split at h
      · rename_i hl
        exact op_mulW pins s σ H _ _ v u Q I rx ry ⟨i, j, rfl, rfl, hl, h.here rs (.int _)⟩
      · exact False.elim h
    | _ => exact False.elim h
  | tup ha hxs => cases hy with
    | int j =>
      rename_i a vs ds
      simp only [binD] at h
      split at h
      · rename_i hl
        obtain ⟨h1, h2, h3, h4⟩ := hl
        refine op_repT pins s σ H _ _ v u Q I rx ry ⟨a, j, vs, rfl, rfl, ha, fun e => h1 (hxs.nil_iff.mpr e), h2, h3, by rw [← hxs.length]; exact h4, h.newU rs (hxs.rep _)⟩
      · exact False.elim h
    | _ => exact False.elim h
  | ref hn => cases hy with
    | int j =>
      rename_i n a
      obtain ⟨oa, ea, ra⟩ := rs.obj hn
      simp only [binD, ea] at h
      cases oa with
      | lst xs =>
        obtain ⟨vs, e1, r1⟩ := ra
        simp only at h
        split at h
        · rename_i hl
          rw [Bool.and_eq_true, decide_eq_true_eq, lim_eq, r1.length] at hl
          obtain ⟨s1, s2⟩ := small_iff hl.1
          obtain ⟨_, q⟩ := Po.newL h rs (r1.rep _)
          exact op_rep pins s σ H _ _ v u Q I rx ry ⟨a, j, vs, rfl, rfl, e1, by omega, by omega, hl.2, q⟩
        · exact False.elim h
      | _ => exact False.elim h
    | _ => exact False.elim h
  | _ => cases hy <;> exact False.elim h
theorem opr_fdiv : OpR X (binaryOp .FloorDiv) (rBin X ca W .fdiv) := by
  intro pins s σ H vx vy v u Q I rx ry ⟨μ, st, x, y, rs, hx, hy, h⟩
  cases hx with
  | int i => cases hy with
    | int j =>
      simp only [binD] at h
      split at h
      · rename_i hl
        exact op_fdivW pins s σ H _ _ v u Q I rx ry ⟨i, j, rfl, rfl, hl, h.here rs (.int _)⟩
      · exact False.elim h
    | _ => exact False.elim h
  | _ => cases hy <;> exact False.elim h
theorem opr_mod : OpR X (binaryOp .Mod) (rBin X ca W .mod) := by
  intro pins s σ H vx vy v u Q I rx ry ⟨μ, st, x, y, rs, hx, hy, h⟩
  cases hx with
  | int i => cases hy with
    | int j =>
      simp only [binD] at h
      split at h
      · rename_i hl
        exact op_mod pins s σ H _ _ v u Q I rx ry ⟨i, j, rfl, rfl, hl, h.here rs (.int _)⟩
      · exact False.elim h
    | _ => exact False.elim h
  | _ => cases hy <;> exact False.elim h
theorem bits_le (i : Int) : Builtin.Int.intBits i ≤ i.natAbs.log2 + 1 := by
  unfold Builtin.Int.intBits
  split <;> omega
theorem opr_pow : OpR X (binaryOp .Pow) (rBin X ca W .pow) := by
  intro pins s σ H vx vy v u Q I rx ry ⟨μ, st, x, y, rs, hx, hy, h⟩
  cases hx with
  | int i => cases hy with
    | int j =>
      simp only [binD] at h
      split at h
      · rename_i hl
        obtain ⟨t, rfl⟩ := rx
        obtain ⟨t', rfl⟩ := ry
        have h1 := bits_le i
        refine pow_int hl.1 ?_ ⟨.int _, H, I.tok _, ⟨_, rfl⟩, h.here rs (.int _)⟩
        have h2 : (Builtin.Int.intBits i : Int) * j ≤ ((i.natAbs.log2 + 1 : Nat) : Int) * j := Int.mul_le_mul_of_nonneg_right (by omega) hl.1
        have h3 := hl.2
        have h4 : (1000000 : Int) ≤ 2 ^ 27 := by decide
        omega
      · exact False.elim h
    | _ => exact False.elim h
  | _ => cases hy <;> exact False.elim h
def bopPy : Bop → Operator
  | .add => .Add | .sub => .Sub | .mul => .Mult | .fdiv => .FloorDiv | .mod => .Mod | .pow => .Pow
theorem opr_bin (o : Bop) : OpR X (binaryOp (bopPy o)) (rBin X ca W o) := by
  cases o
  · exact opr_add
  · exact opr_sub
  · exact opr_mul
  · exact opr_fdiv
  · exact opr_mod
  · exact opr_pow

/-! ### comparisons -/
theorem deep64 : deep ≤ 64 := by decide
theorem Po.bool {μ : List Addr} {H : Hp} {st : Sto} {o : Option Bool} {Q : VK} (h : Po X.K X.w ca W (RV X.K) μ H (match o with | some b => (.ok (.bl b) st : Out D) | none => .no) Q) (rs : RS X.K X.w ca μ st H) : ∃ b, o = some b ∧ Q (.bl b) H := by
  cases o with
  | none => exact False.elim h
  | some b => exact ⟨b, rfl, h.here rs (.bl _)⟩
theorem eqD_dp {K : PySem.W.Frag} {w : World} {μ : List Addr} {H : Hp} {st : Sto} {x y : D} {vx vy : V} {b : Bool} (rs : RS K w ca μ st H) (hx : RV K μ H x vx) (hy : RV K μ H y vy) (h : eqD st x y = some b) :
    ∃ d e, Dp K H vx d ∧ Dp K H vy e ∧ SeqAt.shaped d = true ∧ SeqAt.shaped e = true ∧ PyData.eqv d e = b := by
  unfold eqD at h
  split at h
  · rename_i p q e1 e2
    cases h
    exact ⟨p, q, snap_dp rs _ _ _ _ hx e1, snap_dp rs _ _ _ _ hy e2, snap_shaped deep64 e1, snap_shaped deep64 e2, rfl⟩
  · cases h
theorem opr_eq (hu : X.A.units + 65 < cLine) : OpR X (compareOp .Eq) (rCmp X ca W .eq) := by
  intro pins s σ H vx vy v u Q I rx ry ⟨μ, st, x, y, rs, hx, hy, h⟩
  obtain ⟨b, e, q⟩ := Po.bool (o := eqD st x y) h rs
  obtain ⟨d, f, h1, h2, h3, h4, h5⟩ := eqD_dp rs hx hy e
  exact op_eqD (by omega) pins s σ H _ _ v u Q I rx ry ⟨d, f, h1, h2, h3, h4, by rw [h5]; exact q⟩
theorem opr_ne (hu : X.A.units + 65 < cLine) : OpR X (compareOp .NotEq) (rCmp X ca W .ne) := by
  intro pins s σ H vx vy v u Q I rx ry ⟨μ, st, x, y, rs, hx, hy, h⟩
  obtain ⟨b, e, q⟩ := Po.bool (o := (eqD st x y).map not) h rs
  obtain ⟨c, e2, rfl⟩ := Option.map_eq_some_iff.mp e
  obtain ⟨d, f, h1, h2, h3, h4, h5⟩ := eqD_dp rs hx hy e2
  exact op_neD (by omega) pins s σ H _ _ v u Q I rx ry ⟨d, f, h1, h2, h3, h4, by rw [h5]; exact q⟩
theorem opr_isN : OpR X (compareOp .Is) (rCmp X ca W .isN) := by
  intro pins s σ H vx vy v u Q I rx ry ⟨μ, st, x, y, rs, hx, hy, h⟩
  obtain ⟨b, e, q⟩ := Po.bool (o := if y = .non then some (decide (x = .non)) else none) h rs
  split at e
  · rename_i hn
    subst hn
    cases hy
    cases e
    refine op_isN pins s σ H _ _ v u Q I rx ry ⟨rfl, ?_⟩
    have : decide (x = D.non) = decide (vx = V.non) := by cases hx <;> simp
    rw [← this]; exact q
  · cases e
theorem opr_notN : OpR X (compareOp .IsNot) (rCmp X ca W .notN) := by
  intro pins s σ H vx vy v u Q I rx ry ⟨μ, st, x, y, rs, hx, hy, h⟩
  obtain ⟨b, e, q⟩ := Po.bool (o := if y = .non then some (!decide (x = .non)) else none) h rs
  split at e
  · rename_i hn
    subst hn
    cases hy
    cases e
    refine op_notN pins s σ H _ _ v u Q I rx ry ⟨rfl, ?_⟩
    have : decide (x = D.non) = decide (vx = V.non) := by cases hx <;> simp
    rw [← this]; exact q
  · cases e
theorem ord_int {o : Cop} {op : CmpOp} {p : Int → Int → Bool} (ho : ∀ i j, cmpI o i j = some (p i j)) (hm : o ≠ .eq ∧ o ≠ .ne ∧ o ≠ .isN ∧ o ≠ .notN ∧ o ≠ .mem ∧ o ≠ .nmem) (r : OpR X (compareOp op) (rI0 fun i j => .bl (p i j))) : OpR X (compareOp op) (rCmp X ca W o) := by
  intro pins s σ H vx vy v u Q I rx ry ⟨μ, st, x, y, rs, hx, hy, h⟩
  have e : cmpD o x y st = (match (match x, y with | .int a, .int b => cmpI o a b | _, _ => none) with | some b => (.ok (.bl b) st : Out D) | none => .no) := by
    cases o <;> first | rfl | (simp at hm)
  rw [e] at h
  obtain ⟨b, e, q⟩ := Po.bool h rs
  cases hx with
  | int i => cases hy with
    | int j =>
      simp only [ho] at e
      cases e
      exact r pins s σ H _ _ v u Q I rx ry ⟨i, j, rfl, rfl, q⟩
    | _ => simp at e
  | _ => cases hy <;> simp at e
theorem opr_lt : OpR X (compareOp .Lt) (rCmp X ca W .lt) := ord_int (fun _ _ => rfl) (by simp) op_lt
theorem opr_le : OpR X (compareOp .LtE) (rCmp X ca W .le) := ord_int (fun _ _ => rfl) (by simp) op_le
theorem opr_gt : OpR X (compareOp .Gt) (rCmp X ca W .gt) := ord_int (fun _ _ => rfl) (by simp) op_gt
theorem opr_ge : OpR X (compareOp .GtE) (rCmp X ca W .ge) := ord_int (fun _ _ => rfl) (by simp) op_ge
end
end Mi

set_option Elab.async false
set_option linter.all false
set_option maxRecDepth 100000
set_option maxHeartbeats 1000000
/-! Mi, part D: keys of dicts, tuples of any depth among them. -/
namespace Mi
open PySem PySem.Spec PyProof.Rows L2

mutual
/-- a value without references as data -/
def toP : D → PyData
  | .non => .none | .bl b => .bool b | .int i => .int i | .str s => .str s | .tup xs => .tuple (toPs xs) | .frz xs => .list (toPs xs) | .ref _ => .none
def toPs : List D → List PyData
  | [] => []
  | x :: xs => toP x :: toPs xs
end
theorem toPs_map : ∀ xs : List D, toPs xs = xs.map toP
  | [] => rfl
  | x :: xs => by simp [toPs, toPs_map xs]
theorem toP_inj : ∀ (n : Nat) (x y : D), keyOk n x = true → keyOk n y = true → toP x = toP y → x = y
  | 0, _, _, h, _, _ => by simp [keyOk] at h
  | n + 1, x, y, hx, hy, e => by
    unfold keyOk at hx hy
    have seq : ∀ (xs ys : List D), xs.all (keyOk n) = true → ys.all (keyOk n) = true → toPs xs = toPs ys → xs = ys := by
      intro xs
      induction xs with
      | nil => intro ys _ _ e; cases ys with
        | nil => rfl
        | cons y ys => simp [toPs] at e
      | cons x xs ih => intro ys h1 h2 e; cases ys with
        | nil => simp [toPs] at e
        | cons y ys =>
          simp only [toPs, List.cons.injEq] at e
          simp only [List.all_cons, Bool.and_eq_true] at h1 h2
          rw [toP_inj n x y h1.1 h2.1 e.1, ih ys h1.2 h2.2 e.2]
    cases x with
    | int i => cases y with
      | int j => simp [toP] at e; rw [e]
      | str s => simp [toP] at e
      | tup ys => simp [toP] at e
      | _ => simp at hy
    | str s => cases y with
      | int j => simp [toP] at e
      | str s => simp [toP] at e; rw [e]
      | tup ys => simp [toP] at e
      | _ => simp at hy
    | tup xs => cases y with
      | int j => simp [toP] at e
      | str s => simp [toP] at e
      | tup ys =>
        simp only [toP, PyData.tuple.injEq] at e
        rw [seq xs ys hx hy e]
      | _ => simp at hy
    | _ => simp at hx
theorem keyOk_lay : ∀ (n : Nat) (x : D), keyOk n x = true → (toP x).canLay0 = true ∧ (toP x).depth ≤ n
  | 0, _, h => by simp [keyOk] at h
  | n + 1, x, h => by
    unfold keyOk at h
    cases x with
    | int i => simp [toP, PyData.canLay0, PyData.depth]
    | str s =>
      simp only [toP, PyData.canLay0, PyData.depth, PyData.strOk]
      exact ⟨h, Nat.zero_le _⟩
    | tup xs =>
      have seq : ∀ (xs : List D), xs.all (keyOk n) = true → PyData.canLayAll0 (toPs xs) = true ∧ PyData.depthAll (toPs xs) ≤ n := by
        intro xs
        induction xs with
        | nil => intro _; simp [toPs, PyData.canLayAll0, PyData.depthAll]
        | cons x xs ih =>
          intro h
          simp only [List.all_cons, Bool.and_eq_true] at h
          obtain ⟨a, b⟩ := keyOk_lay n x h.1
          obtain ⟨c, d⟩ := ih h.2
          simp only [toPs, PyData.canLayAll0, PyData.depthAll, a, c, Bool.and_self, true_and]
          omega
      obtain ⟨a, b⟩ := seq xs h
      simp only [toP, PyData.canLay0, PyData.depth, a, true_and]
      omega
    | _ => simp at h

/-- the tokens that a hash draws -/
def drawK : Nat → D → Nat
  | 0, _ => 0
  | n + 1, d => match d with
    | .int _ => 1
    | .str _ => 1
    | .tup xs => (xs.map (drawK n)).sum + 1
    | _ => 0
section
variable {prog : Program} {w : World} {A : Around} {E : Value → Shared → Prop} {s : Shared}
theorem hash_str {x : Str} {t : Tok} {Q : Int → Shared → Prop} (h : Q (hashStr w x) { s with toks := s.toks + 1 }) : wpAny (model prog w) A (pyHash (.str x t)) Q E s := wpAny_pyHash_str h
theorem hash_int {i : Int} {t : Tok} {Q : Int → Shared → Prop} (h : Q (hashInt i) { s with toks := s.toks + 1 }) : wpAny (model prog w) A (pyHash (.int i t)) Q E s := wpAny_pyHash_int h

theorem push_app {α : Type} (acc : Array α) (x : α) (l : List α) : acc.push x ++ l.toArray = acc ++ (x :: l).toArray := by
  apply Array.toList_inj.mp
  simp
theorem reads_tup {h : Heap} {v : Value} {xs : List D} {as : List Addr} (r : Reads h v (toP (.tup xs)) as) :
    ∃ a o its n, v = .ref a ∧ h.get? a = some o ∧ o.cls = .type "tuple" ∧ o.data = .seq its n ∧ ReadsAll h its.toList (toPs xs) as := by
  rw [show toP (.tup xs) = .tuple (toPs xs) from rfl] at r
  cases r with
  | tuple h1 h2 h3 h4 => exact ⟨_, _, _, _, rfl, h1, h2, h3, h4⟩
theorem hash_ref_tup {a : Addr} {o : Obj} {its : Array Value} {n : Nat} {hs : List Int} {dr : Nat} {Q : Int → Shared → Prop} (hu : A.units < cLine)
    (ho : s.heap.get? a = some o) (hc : o.cls = .type "tuple") (hd : o.data = .seq its n)
    (items : ∀ (R : Array Int → Shared → Prop), R hs.toArray { s with toks := s.toks + dr } →
      wpAny (model prog w) A.in1 (forIn its.toList (#[] : Array Int) fun v r => do let x ← pyHash v; pure (ForInStep.yield (r.push x))) R E s)
    (h : Q (reduceHash (Builtin.Tuple.tupleHashOf hs)) { s with toks := s.toks + (dr + 1) }) :
    wpAny (model prog w) A (pyHash (.ref a)) Q E s := by
  have hT : s.TypeIs (.ref a) "tuple" := ⟨o, ho, hc⟩
  unfold pyHash pyHashByItsType
  refine wpAny_bind (wpAny_cRoomFor_or (.inr hu) ?_)
  refine wpAny_bind (wpAny_specialOf hT F.slot_tuple_hash.lookup ?_)
  show wpAny _ _ (if (some (Value.builtin "tuple.__hash__") == some Value.none) = true then _ else _) Q E s
  rw [if_neg (by rw [beq_builtin_none]; exact Bool.false_ne_true)]
  refine wpAny_bind (wpAny_specialOf hT F.slot_tuple_hash.lookup ?_)
  show wpAny _ _ (callSpecialIfBoundUnlessNone? (.ref a) "__hash__" _ >>= _) Q E s
  refine wpAny_bind (wpAny_callSpecialIfBoundUnlessNone?_slot hT F.slot_tuple_hash
    (wpAny_call_entry F.slot_tuple_hash hT F.entry_tuple_hash ?_ (F.args_tuple_hash_1 _)))
  show wpAny _ _ (Builtin.Tuple.tupleItemsOf (.ref a) >>= _) _ _ s
  refine wpAny_bind (wpAny_tupleItemsOf ho hd ?_)
  refine wpAny_bind ?_
  rw [← Array.forIn_toList]
  refine items _ ?_
  refine wpAny_ret_mkInt ?_
  show wpAny _ _ (if (decide (-(2 : Int) ^ 63 ≤ Builtin.Tuple.tupleHashOf hs) && decide (Builtin.Tuple.tupleHashOf hs < 2 ^ 63)) = true then _ else _) Q E _
  unfold reduceHash at h
  by_cases hr : (decide (-(2 : Int) ^ 63 ≤ Builtin.Tuple.tupleHashOf hs) && decide (Builtin.Tuple.tupleHashOf hs < 2 ^ 63)) = true
  · rw [if_pos hr]
    rw [if_pos hr] at h
    exact wpAny_pure h
  · rw [if_neg hr]
    rw [if_neg hr] at h
    exact wpAny_bind (wpAny_rule (wpAny_pure h))
/-- the hash of a key -/
theorem hash_key : ∀ (n m : Nat) (d : D) (v : Value) (as : List Addr) (A : Around) (E : Value → Shared → Prop) (s : Shared) (Q : Int → Shared → Prop), keyOk n d = true → n ≤ m → Reads s.heap v (toP d) as → A.units + n < cLine →
    Q (hashK w m d) { s with toks := s.toks + drawK m d } → wpAny (model prog w) A (pyHash v) Q E s
  | 0, _, _, _, _, _, _, _, _, h, _, _, _, _ => by simp [keyOk] at h
  | n + 1, 0, _, _, _, _, _, _, _, _, h, _, _, _ => by omega
  | n + 1, m + 1, d, v, as, A, E, s, Q, h, hm, r, hu, hq => by
    unfold keyOk at h
    cases d with
    | int i =>
      rw [show toP (.int i) = .int i from rfl] at r
      cases r
      exact wpAny_pyHash_int hq
    | str x =>
      rw [show toP (.str x) = .str x from rfl] at r
      cases r
      exact wpAny_pyHash_str hq
    | tup xs =>
      obtain ⟨a, o, its, k, rfl, h1, h2, h3, h4⟩ := reads_tup r
      refine hash_ref_tup (hs := xs.map (hashK w m)) (dr := (xs.map (drawK m)).sum) (by omega) h1 h2 h3 (fun R hR => ?_) hq
      -- the items
      have loop : ∀ (xs : List D) (l : List Value) (bs : List Addr) (acc : Array Int) (s : Shared) (R : Array Int → Shared → Prop), xs.all (keyOk n) = true → ReadsAll s.heap l (toPs xs) bs →
          R (acc ++ (xs.map (hashK w m)).toArray) { s with toks := s.toks + (xs.map (drawK m)).sum } →
          wpAny (model prog w) A.in1 (forIn l acc fun v r => do let x ← pyHash v; pure (ForInStep.yield (r.push x))) R E s := by
        intro xs
        induction xs with
        | nil =>
          intro l bs acc s R _ rl hR
          simp only [toPs] at rl
          cases rl
          refine wpAny_pure ?_
          simpa using hR
        | cons x xs ih =>
          intro l bs acc s R hk rl hR
          simp only [toPs] at rl
          simp only [List.all_cons, Bool.and_eq_true] at hk
          cases rl with
          | cons r1 r2 =>
            rw [List.forIn_cons]
            refine wpAny_bind (wpAny_bind (hash_key n m x _ _ A.in1 E s _ hk.1 (by omega) r1 (by show A.units + 1 + n < cLine; omega) (wpAny_pure ?_)))
            refine ih _ _ _ { s with toks := s.toks + drawK m x } R hk.2 r2 ?_
            rw [push_app, show s.toks + drawK m x + (xs.map (drawK m)).sum = s.toks + ((x :: xs).map (drawK m)).sum by rw [List.map_cons, List.sum_cons, Nat.add_assoc]]
            exact hR
      exact loop xs its.toList _ #[] s R h h4 (by simpa using hR)
    | _ => simp at h

/-- no own comparison in a key -/
theorem quiet_key : ∀ (n m : Nat) (d : D) (v : Value) (as : List Addr) (A : Around) (E : Value → Shared → Prop) (s : Shared) (Q : Bool → Shared → Prop), keyOk n d = true → n ≤ m → Reads s.heap v (toP d) as →
    Q true s → wpAny (model prog w) A (eqIsQuiet m v) Q E s
  | 0, _, _, _, _, _, _, _, _, h, _, _, _ => by simp [keyOk] at h
  | n + 1, 0, _, _, _, _, _, _, _, _, h, _, _ => by omega
  | n + 1, m + 1, d, v, as, A, E, s, Q, h, hm, r, hq => by
    unfold keyOk at h
    cases d with
    | int i =>
      rw [show toP (.int i) = .int i from rfl] at r
      cases r
      rw [eqIsQuiet_byValue _ rfl]
      exact wpAny_pure hq
    | str x =>
      rw [show toP (.str x) = .str x from rfl] at r
      cases r
      rw [eqIsQuiet_byValue _ rfl]
      exact wpAny_pure hq
    | tup xs =>
      obtain ⟨a, o, its, k, rfl, h1, h2, h3, h4⟩ := reads_tup r
      have hT : s.TypeIs (.ref a) "tuple" := ⟨o, h1, h2⟩
      unfold eqIsQuiet
      refine wpAny_bind (wpAny_specialOf hT F.slot_tuple_eq.lookup ?_)
      show wpAny _ _ (isInstance (.ref a) (.type "tuple") >>= _) _ _ s
      refine wpAny_bind (wpAny_isInstance hT isSubtype_tuple_tuple ?_)
      simp only [Bool.not_true, Bool.false_eq_true, if_false]
      refine wpAny_bind (wpAny_seqItems h1 h3 ?_)
      refine wpAny_bind ?_
      show wpAny _ _ (forIn its _ _) _ _ s
      rw [← Array.forIn_toList]
      refine wpAny_forIn_list _ (fun rest r s' => r.1 = none ∧ s' = s ∧ ∃ ys bs, ys.all (keyOk n) = true ∧ ReadsAll s.heap rest (toPs ys) bs) _ ?_ ?_ _ _ ⟨rfl, rfl, xs, _, h, h4⟩
      · rintro v rest r s' ⟨hr, rfl, ys, bs, hk, rl⟩
        cases ys with
        | nil => simp only [toPs] at rl; cases rl
        | cons y ys =>
          simp only [toPs] at rl
          simp only [List.all_cons, Bool.and_eq_true] at hk
          cases rl with
          | cons r1 r2 =>
            refine wpAny_bind (quiet_key n m y _ _ A _ s' _ hk.1 (by omega) r1 ?_)
            simp only [Bool.not_true, Bool.false_eq_true, if_false]
            exact wpAny_pure ⟨rfl, rfl, ys, _, hk.2, r2⟩
      · rintro ⟨r1, r2⟩ s' ⟨hr, rfl, _⟩
        simp only at hr
        subst hr
        exact wpAny_pure hq
    | _ => simp at h
end
/-- keys that are tuples -/
theorem Reads.keep_dict {h h' : Heap} {d : Addr} {o : Obj} {es : Array DictEntry} {ep : Nat} (ho : h.get? d = some o) (hd : o.data = .dict es ep) (hs : Heap.SameBut d h h') :
    ∀ (n : Nat) (x : D) (v : Value) (as : List Addr), keyOk n x = true → Reads h v (toP x) as → Reads h' v (toP x) as
  | 0, _, _, _, h, _ => by simp [keyOk] at h
  | n + 1, x, v, as, hk, r => by
    unfold keyOk at hk
    cases x with
    | int i => rw [show toP (.int i) = .int i from rfl] at r ⊢; cases r; exact .int _ _
    | str x => rw [show toP (.str x) = .str x from rfl] at r ⊢; cases r; exact .str _ _
    | tup xs =>
      rw [show toP (.tup xs) = .tuple (toPs xs) from rfl] at r ⊢
      cases r with
      | tuple h1 h2 h3 h4 =>
        rename_i a o' vs k
        have ne : a ≠ d := by
          rintro rfl
          obtain rfl : o' = o := Option.some.inj (h1.symm.trans ho)
          rw [hd] at h3; cases h3
        refine .tuple ((hs.2 a ne).trans h1) h2 h3 ?_
        have seq : ∀ (xs : List D) (l : List Value) (bs : List Addr), xs.all (keyOk n) = true → ReadsAll h l (toPs xs) bs → ReadsAll h' l (toPs xs) bs := by
          intro xs
          induction xs with
          | nil => intro l bs _ rl; simp only [toPs] at rl ⊢; cases rl; exact .nil
          | cons x xs ih =>
            intro l bs hk rl
            simp only [toPs] at rl ⊢
            simp only [List.all_cons, Bool.and_eq_true] at hk
            cases rl with
            | cons r1 r2 => exact .cons (Reads.keep_dict ho hd hs n x _ _ hk.1 r1) (ih _ _ hk.2 r2)
        exact seq xs _ _ hk h4
    | _ => simp at hk
theorem eqv_key : ∀ (n : Nat) (x y : D), keyOk n x = true → keyOk n y = true → PyData.eqv (toP x) (toP y) = decide (x = y)
  | 0, _, _, h, _ => by simp [keyOk] at h
  | n + 1, x, y, hx, hy => by
    unfold keyOk at hx hy
    have seq : ∀ (xs ys : List D), xs.all (keyOk n) = true → ys.all (keyOk n) = true → PyData.eqvAll (toPs xs) (toPs ys) = decide (xs = ys) := by
      intro xs
      induction xs with
      | nil => intro ys _ _; cases ys with
        | nil => simp [toPs, PyData.eqvAll]
        | cons y ys => simp [toPs, PyData.eqvAll]
      | cons x xs ih => intro ys h1 h2; cases ys with
        | nil => simp [toPs, PyData.eqvAll]
        | cons y ys =>
          simp only [List.all_cons, Bool.and_eq_true] at h1 h2
          simp only [toPs, PyData.eqvAll, eqv_key n x y h1.1 h2.1, ih ys h1.2 h2.2]
          by_cases e1 : x = y <;> by_cases e2 : xs = ys <;> simp [e1, e2]
    cases x with
    | int i => cases y with
      | int j => simp only [toP, PyData.eqv]; by_cases e : i = j <;> simp [e]
      | str s => simp [toP, PyData.eqv]
      | tup ys => simp [toP, PyData.eqv]
      | _ => simp at hy
    | str s => cases y with
      | int j => simp [toP, PyData.eqv]
      | str t => simp only [toP, PyData.eqv]; by_cases e : s = t <;> simp [e]
      | tup ys => simp [toP, PyData.eqv]
      | _ => simp at hy
    | tup xs => cases y with
      | int j => simp [toP, PyData.eqv]
      | str s => simp [toP, PyData.eqv]
      | tup ys =>
        simp only [toP, PyData.eqv, seq xs ys hx hy]
        by_cases e : xs = ys <;> simp [e]
      | _ => simp at hy
    | _ => simp at hx
def tupK : D → Bool
  | .tup _ => true
  | _ => false
def isK (h : Heap) (d : D) (a : Addr) : Prop := keyOk 6 d = true ∧ ∃ as, Reads h (.ref a) (toP d) as
def dKind (prog : Program) (w : World) : HeapKind prog w D where
  is := isK
  hash := hashK w 8
  draws := drawK 8
  room := fun A => A.units + 16 < cLine
  inj := fun ⟨k1, as, r1⟩ ⟨k2, bs, r2⟩ => toP_inj 6 _ _ k1 k2 (SeqAt.Reads.unique _ _ _ _ _ (keyOk_lay 6 _ k1).1 r1 r2)
  keeps := fun ⟨k, as, r⟩ ho hd hs => ⟨k, as, Reads.keep_dict ho hd hs 6 _ _ _ k r⟩
  pyHash := fun hu ⟨k, as, r⟩ h => hash_key 6 8 _ _ _ _ _ _ _ k (by omega) r (by omega) h
  eqBool := fun {A E s x y a b Q} hu ⟨k1, as, r1⟩ ⟨k2, bs, r2⟩ h => by
    obtain ⟨l1, d1⟩ := keyOk_lay 6 _ k1
    obtain ⟨l2, d2⟩ := keyOk_lay 6 _ k2
    refine SeqAt.eqBoolOverData prog w A E s _ _ _ _ _ _ Q r1 r2 l1 l2 (by omega) ?_
    rw [eqv_key 6 x y k1 k2]
    exact h
  quiet := fun ⟨k, as, r⟩ h => quiet_key 6 8 _ _ _ _ _ _ _ k (by omega) r h
end Mi

set_option Elab.async false
set_option linter.all false
set_option maxRecDepth 100000
set_option maxHeartbeats 1000000
/-! Mi, part E: dicts by their raw entries. -/
namespace Mi
open PySem PySem.Spec PyProof.Rows L2

/-! ### places in a dict -/
def didx (kvs : List (D × D)) (k : D) : Option Nat := kvs.findIdx? fun p => decide (p.1 = k)
theorem didx_cons (p : D × D) (r : List (D × D)) (k : D) : didx (p :: r) k = if p.1 = k then some 0 else (didx r k).map (· + 1) := by
  unfold didx
  rw [List.findIdx?_cons]
  by_cases h : p.1 = k <;> simp [h]
theorem dget_none : ∀ {kvs : List (D × D)} {k : D}, didx kvs k = none → dget kvs k = none ∧ ∀ v, dput kvs k v = kvs ++ [(k, v)]
  | [], _, _ => ⟨rfl, fun _ => rfl⟩
  | p :: r, k, h => by
    rw [didx_cons] at h
    by_cases hp : p.1 = k
    · rw [if_pos hp] at h; cases h
    · rw [if_neg hp] at h
      have h2 : didx r k = none := by simpa using h
      obtain ⟨a, b⟩ := dget_none h2
      refine ⟨?_, fun v => ?_⟩
      · unfold dget; rw [if_neg hp]; exact a
      · unfold dput; rw [if_neg hp, b v]; rfl
theorem dget_some : ∀ {kvs : List (D × D)} {k : D} {j : Nat}, didx kvs k = some j → ∃ v, kvs[j]? = some (k, v) ∧ dget kvs k = some v ∧ ∀ u, dput kvs k u = kvs.set j (k, u)
  | [], _, _, h => by simp [didx] at h
  | p :: r, k, j, h => by
    rw [didx_cons] at h
    by_cases hp : p.1 = k
    · rw [if_pos hp] at h
      cases h
      obtain ⟨a, b⟩ := p
      simp only at hp
      subst hp
      refine ⟨b, rfl, ?_, fun u => ?_⟩
      · unfold dget; rw [if_pos rfl]
      · unfold dput; rw [if_pos rfl]; rfl
    · rw [if_neg hp] at h
      obtain ⟨i, h2, rfl⟩ := Option.map_eq_some_iff.mp h
      obtain ⟨v, a, b, c⟩ := dget_some h2
      refine ⟨v, by simpa using a, ?_, fun u => ?_⟩
      · unfold dget; rw [if_neg hp]; exact b
      · unfold dput; rw [if_neg hp, c u]; rfl
theorem didx_none_iff {kvs : List (D × D)} {k : D} : didx kvs k = none ↔ k ∉ kvs.map (·.1) := by
  unfold didx
  rw [List.findIdx?_eq_none_iff]
  simp only [decide_eq_false_iff_not, List.mem_map, not_exists, not_and]

/-- an entry against the real heap -/
structure EntH (w : World) (h : Heap) (p : D × D) (e : DictEntry) : Prop where
  hash : e.hash = hashK w 8 p.1
  ok : keyOk 6 p.1 = true
  key : ∃ as, Reads h e.key (toP p.1) as
theorem paired_at {α β : Type} {F : α → β → Prop} : ∀ {xs : List α} {ys : List β}, Paired F xs ys → ∀ {i : Nat} {x : α}, xs[i]? = some x → ∃ y, ys[i]? = some y ∧ F x y
  | _, _, .nil, i, x, e => by simp at e
  | _, _, .cons h _, 0, x, e => by simp at e; subst e; exact ⟨_, rfl, h⟩
  | _, _, .cons _ t, i + 1, x, e => by
    obtain ⟨y, a, b⟩ := paired_at t (i := i) (x := x) (by simpa using e)
    exact ⟨y, by simpa using a, b⟩
theorem kind_tup {d : D} (h : kindOf d = 1) : ∃ xs, d = .tup xs := by
  cases d <;> simp [kindOf] at h
  exact ⟨_, rfl⟩
section
variable {P : Program} {w : World} {A : Around} {E : Value → Shared → Prop} {s : Shared} {d : Addr} {o : Obj} {es : Array DictEntry} {ep : Nat} {kvs : List (D × D)} {k : D} {v : Value}
/-- the entries of tuple keys, for the library's rule -/
theorem heap_entries : ∀ {kvs : List (D × D)} {l : List DictEntry}, Paired (EntH w s.heap) kvs l → (∀ p ∈ kvs, kindOf p.1 = 1) →
    ∃ xs : List (D × Addr × Value), l = xs.map (entryOfKey (dKind P w)) ∧ xs.map (·.1) = kvs.map (·.1) ∧ ∀ x ∈ xs, isK s.heap x.1 x.2.1
  | _, _, .nil, _ => ⟨[], rfl, rfl, by simp⟩
  | _, _, .cons (a := p) (b := e) h t, hk => by
    obtain ⟨xs, h1, h2, h3⟩ := heap_entries t fun q hq => hk q (List.mem_cons_of_mem _ hq)
    obtain ⟨ys, hy⟩ := kind_tup (hk p List.mem_cons_self)
    obtain ⟨as, r⟩ := h.key
    rw [hy] at r
    obtain ⟨a, _, _, _, ha, _⟩ := reads_tup r
    refine ⟨(p.1, a, e.val) :: xs, ?_, by simp [h2], fun x hx => ?_⟩
    · obtain ⟨eh, ek, ev⟩ := e
      simp only at ha
      subst ha
      rw [List.map_cons, ← h1]
      have := h.hash
      simp only at this
      subst this
      rfl
    · rcases List.mem_cons.mp hx with rfl | hx
      · refine ⟨h.ok, as, ?_⟩
        show Reads s.heap (.ref a) (toP p.1) as
        rw [hy, ← ha]; exact r
      · exact h3 x hx
/-- a scalar key, for the library's other rule -/
def skey : D → Key
  | .int i => .inl i
  | .str x => .inr x
  | _ => .inl 0
theorem skey_is {h : Heap} {k : D} {v : Value} {as : List Addr} (hk : keyOk 6 k = true) (h0 : kindOf k = 0) (r : Reads h v (toP k) as) : keyIs (skey k) v = true ∧ keyH w (skey k) = hashK w 8 k := by
  cases k with
  | int i => rw [show toP (.int i) = .int i from rfl] at r; cases r; exact ⟨keyIs_int _ _, rfl⟩
  | str x => rw [show toP (.str x) = .str x from rfl] at r; cases r; exact ⟨keyIs_str _ _, rfl⟩
  | tup xs => simp [kindOf] at h0
  | _ => simp [keyOk] at hk
theorem skey_inj {a b : D} (ha : keyOk 6 a = true) (hb : keyOk 6 b = true) (h0 : kindOf a = 0) (h1 : kindOf b = 0) (e : skey a = skey b) : a = b := by
  cases a with
  | int i => cases b with
    | int j => simp [skey] at e; rw [e]
    | str x => simp [skey] at e
    | tup xs => simp [kindOf] at h1
    | _ => simp [keyOk] at hb
  | str y => cases b with
    | int j => simp [skey] at e
    | str x => simp [skey] at e; rw [e]
    | tup xs => simp [kindOf] at h1
    | _ => simp [keyOk] at hb
  | tup xs => simp [kindOf] at h0
  | _ => simp [keyOk] at ha
theorem scal_entries : ∀ {kvs : List (D × D)} {l : List DictEntry}, Paired (EntH w s.heap) kvs l → (∀ p ∈ kvs, kindOf p.1 = 0) →
    (∀ e ∈ l, ∃ k', (mixKind P w).is k' e.key = true ∧ e.hash = (mixKind P w).hash k') ∧ ∀ k, keyOk 6 k = true → kindOf k = 0 → (l.findIdx? fun e => (mixKind P w).is (skey k) e.key) = didx kvs k
  | _, _, .nil, _ => ⟨by simp, fun _ _ _ => rfl⟩
  | _, _, .cons (a := p) (b := e) (l₁ := r) h t, hk => by
    obtain ⟨h1, h2⟩ := scal_entries t fun q hq => hk q (List.mem_cons_of_mem _ hq)
    obtain ⟨as, rd⟩ := h.key
    have h0 := hk p List.mem_cons_self
    obtain ⟨i1, i2⟩ := skey_is (w := w) h.ok h0 rd
    refine ⟨fun e' he => ?_, fun k hk1 hk0 => ?_⟩
    · rcases List.mem_cons.mp he with rfl | he
      · exact ⟨skey p.1, i1, by rw [h.hash]; exact i2.symm⟩
      · exact h1 e' he
    · rw [didx_cons, List.findIdx?_cons, h2 k hk1 hk0]
      have e1 : (mixKind P w).is (skey k) e.key = decide (skey k = skey p.1) := KeyKind.is_eq_decide (knd := mixKind P w) (k := skey p.1) (v := e.key) i1 (skey k)
      rw [e1]
      by_cases hp : p.1 = k
      · subst hp; simp
      · have : ¬ skey k = skey p.1 := fun z => hp (skey_inj hk1 h.ok hk0 h0 z).symm
        simp [hp, this]
theorem find_raw {Q : Option Nat → Shared → Prop} (hu : A.units + 16 < cLine) (ho : s.heap.get? d = some o) (hd : o.data = .dict es ep) (hp : Paired (EntH w s.heap) kvs es.toList)
    (hn : (kvs.map (·.1)).Nodup) (hk : dictOk kvs k = true) {as : List Addr} (r : Reads s.heap v (toP k) as) (hq : Q (didx kvs k) s) : wpAny (model P w) A (dictFind d v (hashK w 8 k)) Q E s := by
  unfold dictOk at hk
  simp only [Bool.and_eq_true, List.all_eq_true, beq_iff_eq] at hk
  obtain ⟨hk, hall⟩ := hk
  have h01 : kindOf k = 0 ∨ kindOf k = 1 := by cases k <;> simp [kindOf]
  rcases h01 with h0 | h1
  · obtain ⟨i1, i2⟩ := skey_is (w := w) hk h0 r
    obtain ⟨e1, e2⟩ := scal_entries (P := P) hp fun p hpm => (hall p hpm).trans h0
    rw [← i2]
    refine wpAny_dictFind_of (knd := mixKind P w) i1 ho hd (fun e he => e1 e (Array.mem_toList_iff.mpr he)) ?_
    have := e2 k hk h0
    have e3 : (es.findIdx? fun e => (mixKind P w).is (skey k) e.key) = es.toList.findIdx? fun e => (mixKind P w).is (skey k) e.key := by
      cases es; simp
    rw [e3, this]
    exact hq
  · obtain ⟨ys, hy⟩ := kind_tup h1
    obtain ⟨xs, x1, x2, x3⟩ := heap_entries (P := P) hp fun p hpm => (hall p hpm).trans h1
    obtain ⟨a, _, _, _, rfl, _⟩ := reads_tup (hy ▸ r)
    have key : ∀ j, (∃ q, xs[j]? = some (k, q)) → didx kvs k = some j := fun j ⟨q, hj⟩ => by
      have hj' : (kvs.map (·.1))[j]? = some k := by rw [← x2, List.getElem?_map, hj]; rfl
      cases e : didx kvs k with
      | none => exact absurd (List.mem_of_getElem? hj') (didx_none_iff.mp e)
      | some i =>
        obtain ⟨u, hi, _⟩ := dget_some e
        have hi' : (kvs.map (·.1))[i]? = some k := by rw [List.getElem?_map, hi]; rfl
        rw [(List.getElem?_inj (List.getElem?_eq_some_iff.mp hi').1 hn).mp (hi'.trans hj'.symm)]
    refine wpAny_dictFind_heap (knd := dKind P w) hu ⟨hk, _, r⟩ ho hd x1 x3 (by rw [x2]; exact hn) (fun hno => ?_) fun j q hj => ?_
    · have : didx kvs k = none := by
        rw [didx_none_iff, ← x2]
        exact not_mem_keys_of_get hno
      rw [this] at hq; exact hq
    · rw [key j ⟨q, hj⟩] at hq; exact hq

/-- the key's hash, then the look -/
theorem look_raw {Q : Option Nat → Shared → Prop} (hu : A.units + 16 < cLine) (ho : s.heap.get? d = some o) (hd : o.data = .dict es ep) (hp : Paired (EntH w s.heap) kvs es.toList)
    (hn : (kvs.map (·.1)).Nodup) (hk : dictOk kvs k = true) {as : List Addr} (r : Reads s.heap v (toP k) as) (hq : ∀ tk, Q (didx kvs k) { s with toks := tk }) :
    wpAny (model P w) A (pyHash v) (fun h s1 => wpAny (model P w) A (dictFind d v h) Q E s1) E s := by
  have k6 : keyOk 6 k = true := by
    unfold dictOk at hk
    rw [Bool.and_eq_true] at hk
    exact hk.1
  exact hash_key 6 8 k v as A E s _ k6 (by omega) r (by omega) (find_raw (s := { s with toks := s.toks + drawK 8 k }) hu ho hd hp hn hk r (hq _))
/-- d[k], d.get(k), k in d look so -/
theorem get_raw {Q : Option Value → Shared → Prop} (hu : A.units + 16 < cLine) (ho : s.heap.get? d = some o) (hd : o.data = .dict es ep) (hp : Paired (EntH w s.heap) kvs es.toList)
    (hn : (kvs.map (·.1)).Nodup) (hk : dictOk kvs k = true) {as : List Addr} (r : Reads s.heap v (toP k) as)
    (h0 : didx kvs k = none → ∀ tk, Q none { s with toks := tk }) (h1 : ∀ j e, didx kvs k = some j → es[j]? = some e → ∀ tk, Q (some e.val) { s with toks := tk }) :
    wpAny (model P w) A (dictGet d v) Q E s := by
  unfold dictGet
  try with_reducible refine wpAny_holding ?_
  refine wpAny_bind (wpAny_mono (look_raw (E := E) (Q := fun i s1 => ∃ tk, s1 = { s with toks := tk } ∧ i = didx kvs k) hu ho hd hp hn hk r fun tk => ⟨tk, rfl, rfl⟩) (fun h s1 hl => wpAny_bind (wpAny_mono hl (fun i s2 hi => ?_) fun _ _ z => z)) fun _ _ z => z)
  obtain ⟨tk, rfl, rfl⟩ := hi
  cases e : didx kvs k with
  | none => exact wpAny_pure (h0 e tk)
  | some j =>
    obtain ⟨u, a, _⟩ := dget_some e
    obtain ⟨en, b, _⟩ := paired_at hp a
    have b' : es[j]? = some en := by rw [← Array.getElem?_toList]; exact b
    refine wpAny_bind (wpAny_dictEntries (s := { s with toks := tk }) ho hd (wpAny_pure ?_))
    rw [b']
    exact h1 j en e b' tk
theorem in_raw {Q : Bool → Shared → Prop} (hu : A.units + 17 < cLine) (hs : (d == sysModules) = false) (ho : s.heap.get? d = some o) (hc : o.ExactDict) (hd : o.data = .dict es ep) (hp : Paired (EntH w s.heap) kvs es.toList)
    (hn : (kvs.map (·.1)).Nodup) (hk : dictOk kvs k = true) {as : List Addr} (r : Reads s.heap v (toP k) as)
    (hq : ∀ tk, Q (dget kvs k).isSome { s with toks := tk }) : wpAny (model P w) A (contains (.ref d) v) Q E s := by
  have hT : s.TypeIs (.ref d) "dict" := ⟨o, ho, hc.1⟩
  unfold contains
  try with_reducible refine wpAny_holding ?_
  refine wpAny_bind (wpAny_specialOf hT slot_dict_contains.lookup ?_)
  show wpAny _ _ (if (some (Value.builtin "dict.__contains__") == some Value.none) = true then _ else _) _ E s
  rw [if_neg (by rw [beq_builtin_none]; exact Bool.false_ne_true)]
  refine wpAny_bind (wpAny_callSpecialUnlessNone?_slot (name := Str.ofString "__contains__") hT slot_dict_contains
    (wpAny_call_entry slot_dict_contains hT entry_dict_contains ?_ (args_dict_contains _ _)))
  show wpAny _ _ (dictGet d v >>= _) _ _ s
  refine wpAny_bind (get_raw (A := A.in1) (by show A.units + 1 + 16 < cLine; omega) ho hd hp hn hk r (fun e tk => ?_) fun j en e he tk => ?_)
  · rw [(dget_none e).1] at hq
    show wpAny _ _ (Builtin.Dict.pendingKey? d v >>= _) _ _ _
    exact wpAny_bind (wpAny_pendingKey_other hs (wpAny_pure ⟨_, rfl, wpAny_truthy_bool (hq tk)⟩))
  · obtain ⟨u, _, b, _⟩ := dget_some e
    rw [b] at hq
    show wpAny _ _ (ret (.bool true)) _ _ _
    exact wpAny_pure ⟨_, rfl, wpAny_truthy_bool (hq tk)⟩
theorem item_raw {Q : Value → Shared → Prop} {j : Nat} {en : DictEntry} (hu : A.units + 17 < cLine) (ho : s.heap.get? d = some o) (hc : o.ExactDict) (hd : o.data = .dict es ep) (hp : Paired (EntH w s.heap) kvs es.toList)
    (hn : (kvs.map (·.1)).Nodup) (hk : dictOk kvs k = true) {as : List Addr} (r : Reads s.heap v (toP k) as) (e : didx kvs k = some j) (he : es[j]? = some en)
    (hq : ∀ tk, Q en.val { s with toks := tk }) : wpAny (model P w) A (getItem (.ref d) v) Q E s := by
  have hT : s.TypeIs (.ref d) "dict" := ⟨o, ho, hc.1⟩
  unfold getItem
  try with_reducible refine wpAny_holding ?_
  refine wpAny_bind (wpAny_sequenceKey hT (by decide) ?_)
  refine wpAny_bind (wpAny_callSpecial?_slot (name := Str.ofString "__getitem__") hT slot_dict_getitem
    (wpAny_call_entry slot_dict_getitem hT entry_dict_getitem ?_ (args_dict_getitem _ _)))
  show wpAny _ _ (dictGet d v >>= _) _ _ s
  refine wpAny_bind (get_raw (A := A.in1) (by show A.units + 1 + 16 < cLine; omega) ho hd hp hn hk r (fun e0 tk => ?_) fun j' en' e' he' tk => ?_)
  · rw [e] at e0; cases e0
  · rw [e] at e'
    cases e'
    rw [he] at he'
    cases he'
    exact wpAny_pure ⟨en.val, rfl, wpAny_pure (hq tk)⟩
/-- what d[k] = v leaves -/
def putE (w : World) (kvs : List (D × D)) (k : D) (es : Array DictEntry) (key v : Value) : Array DictEntry := match didx kvs k with
  | none => es.push ⟨hashK w 8 k, key, v⟩
  | some j => es.modify j fun e => { e with val := v }
theorem dset_raw {u : Value} {Q : Unit → Shared → Prop} (hu : A.units + 16 < cLine) (ho : s.heap.get? d = some o) (hc : o.ExactDict) (hd : o.data = .dict es ep) (hp : Paired (EntH w s.heap) kvs es.toList)
    (hn : (kvs.map (·.1)).Nodup) (hk : dictOk kvs k = true) (hz : kvs.length ≤ sizeLine) {as : List Addr} (r : Reads s.heap v (toP k) as)
    (hq : ∀ h' tk o', h'.get? d = some o' → o'.ExactDict → o'.data = .dict (putE w kvs k es v u) (if (dget kvs k).isSome then ep else ep + 1) → Heap.SameBut d s.heap h' → Q () { s with heap := h', toks := tk }) :
    wpAny (model P w) A (dictSet d v u) Q E s := by
  have hsz : es.size ≤ sizeLine := by
    have hl : kvs.length = es.size := by
      rw [← Array.length_toList]
      exact PySem.Paired.length hp
    rw [← hl]
    exact hz
  have k6 : keyOk 6 k = true := by
    unfold dictOk at hk
    rw [Bool.and_eq_true] at hk
    exact hk.1
  unfold dictSet
  try with_reducible refine wpAny_holding ?_
  refine wpAny_bind (hash_key 6 8 k v as A _ s _ k6 (by omega) r (by omega) ?_)
  unfold dictSetHashed
  try with_reducible refine wpAny_holding ?_
  refine wpAny_bind (find_raw (s := { s with toks := s.toks + drawK 8 k }) hu ho hd hp hn hk r ?_)
  cases e : didx kvs k with
  | none =>
    have e1 : putE w kvs k es v u = es.push ⟨hashK w 8 k, v, u⟩ := by unfold putE; rw [e]
    rw [e1, (dget_none e).1] at hq
    exact wpAny_bind (wpAny_rule (wpAny_updateDictKeys (hz := hsz) (s := { s with toks := s.toks + drawK 8 k }) ho hd (hq _ _ _ (Heap.get?_update_self _ ho (Obj.isFreed_of_dict (Obj.data_mapDictKeys hd _))) (hc.mapDictKeys _) (Obj.data_mapDictKeys hd _) (Heap.SameBut.update ..))))
  | some j =>
    obtain ⟨x, _, b, _⟩ := dget_some e
    have e1 : putE w kvs k es v u = es.modify j fun e => { e with val := u } := by unfold putE; rw [e]
    rw [e1, b] at hq
    exact wpAny_bind (wpAny_rule (wpAny_bind (wpAny_updateDict (s := { s with toks := s.toks + drawK 8 k }) ho hd (wpAny_point (hq _ _ _ (Heap.get?_update_self _ ho (Obj.isFreed_of_dict (Obj.data_mapDict hd _))) (hc.mapDict _) (Obj.data_mapDict hd _) (Heap.SameBut.update ..))))))
theorem set_raw {u : Value} {Q : Unit → Shared → Prop} (hu : A.units + 17 < cLine) (ho : s.heap.get? d = some o) (hc : o.ExactDict) (hd : o.data = .dict es ep) (hp : Paired (EntH w s.heap) kvs es.toList)
    (hn : (kvs.map (·.1)).Nodup) (hk : dictOk kvs k = true) (hz : kvs.length ≤ sizeLine) {as : List Addr} (r : Reads s.heap v (toP k) as)
    (hq : ∀ h' tk o', h'.get? d = some o' → o'.ExactDict → o'.data = .dict (putE w kvs k es v u) (if (dget kvs k).isSome then ep else ep + 1) → Heap.SameBut d s.heap h' → Q () { s with heap := h', toks := tk }) :
    wpAny (model P w) A (setItem (.ref d) v u) Q E s := by
  have hT : s.TypeIs (.ref d) "dict" := ⟨o, ho, hc.1⟩
  have hsz : es.size ≤ sizeLine := by
    have hl : kvs.length = es.size := by
      rw [← Array.length_toList]
      exact PySem.Paired.length hp
    rw [← hl]
    exact hz
  have k6 : keyOk 6 k = true := by
    unfold dictOk at hk
    rw [Bool.and_eq_true] at hk
    exact hk.1
  unfold setItem
  try with_reducible refine wpAny_holding ?_
  refine wpAny_bind (wpAny_sequenceKey hT (by decide) ?_)
  refine wpAny_bind (wpAny_callSpecial?_slot (name := Str.ofString "__setitem__") hT slot_dict_setitem
    (wpAny_call_entry slot_dict_setitem hT entry_dict_setitem ?_ (args_dict_setitem _ _ _)))
  show wpAny _ _ (Builtin.Dict.notOrdered "__setitem__" ⟨[.ref d, v, u], []⟩ >>= _) _ _ s
  refine wpAny_bind (wpAny_notOrdered_dict hT ?_)
  show wpAny _ _ (dictSet d v u >>= _) _ _ s
  refine wpAny_bind ?_
  unfold dictSet
  try with_reducible refine wpAny_holding ?_
  refine wpAny_bind (hash_key 6 8 k v as A.in1 _ s _ k6 (by omega) r (by show A.units + 1 + 6 < cLine; omega) ?_)
  unfold dictSetHashed
  try with_reducible refine wpAny_holding ?_
  refine wpAny_bind (find_raw (A := A.in1) (s := { s with toks := s.toks + drawK 8 k }) (by show A.units + 1 + 16 < cLine; omega) ho hd hp hn hk r ?_)
  cases e : didx kvs k with
  | none =>
    have e1 : putE w kvs k es v u = es.push ⟨hashK w 8 k, v, u⟩ := by unfold putE; rw [e]
    rw [e1, (dget_none e).1] at hq
    refine wpAny_bind (wpAny_rule (wpAny_updateDictKeys (hz := hsz) (s := { s with toks := s.toks + drawK 8 k }) ho hd ?_))
    exact wpAny_pure ⟨.none, rfl, wpAny_pure (hq _ _ _ (Heap.get?_update_self _ ho (Obj.isFreed_of_dict (Obj.data_mapDictKeys hd _))) (hc.mapDictKeys _) (Obj.data_mapDictKeys hd _) (Heap.SameBut.update ..))⟩
  | some j =>
    obtain ⟨x, _, b, _⟩ := dget_some e
    have e1 : putE w kvs k es v u = es.modify j fun e => { e with val := u } := by unfold putE; rw [e]
    rw [e1, b] at hq
    refine wpAny_bind (wpAny_rule (wpAny_bind (wpAny_updateDict (s := { s with toks := s.toks + drawK 8 k }) ho hd (wpAny_point ?_))))
    exact wpAny_pure ⟨.none, rfl, wpAny_pure (hq _ _ _ (Heap.get?_update_self _ ho (Obj.isFreed_of_dict (Obj.data_mapDict hd _))) (hc.mapDict _) (Obj.data_mapDict hd _) (Heap.SameBut.update ..))⟩
end
end Mi

set_option Elab.async false
set_option linter.all false
set_option maxRecDepth 100000
set_option maxHeartbeats 1000000
/-! Mi, part F: what is in a sequence or a dict, items, stores. -/
namespace Mi
open PySem PySem.Spec PyProof.Rows L2

theorem key_dp {K : PySem.W.Frag} {μ : List Addr} {H : Hp} : ∀ (n : Nat) (d : D) (v : V), keyOk n d = true → RV K μ H d v → Dp K H v (toP d)
  | 0, _, _, h, _ => by simp [keyOk] at h
  | n + 1, d, v, h, r => by
    unfold keyOk at h
    cases r with
    | int i => exact .int i
    | str s => exact .str s
    | tup hs hr =>
      rename_i a vs ds
      have seq : ∀ {ds : List D} {vs : List V}, RVs K μ H ds vs → ds.all (keyOk n) = true → DpAll K H vs (toPs ds) := by
        intro ds
        induction ds with
        | nil => intro vs r _; cases r; exact .nil
        | cons d ds ih =>
          intro vs r h
          simp only [List.all_cons, Bool.and_eq_true] at h
          cases r with
          | cons r1 r2 => exact .cons (key_dp n d _ h.1 r1) (ih r2 h.2)
      exact .tup hs (seq hr h)
    | _ => simp at h
theorem rawD_at {P : Program} {w : World} {H : Hp} {h : Heap} {a : Addr} {es : Array DictEntry} {ep : Nat} (hok : HOk P w H h) (e : H a = some (RawD a es ep)) : ∃ o, h.get? a = some o ∧ o.ExactDict ∧ o.data = .dict es ep := by
  have x : ObjOk P w H h a (.ext fun h => ∃ o, h.get? a = some o ∧ o.ExactDict ∧ o.data = .dict es ep) := hok a _ e
  exact x.1
theorem rawD_ok {P : Program} {w : World} {H : Hp} {h : Heap} {a : Addr} {es : Array DictEntry} {ep : Nat} {o : Obj} (e : h.get? a = some o) (hc : o.ExactDict) (hd : o.data = .dict es ep) : ObjOk P w H h a (RawD a es ep) :=
  ⟨⟨o, e, hc, hd⟩, ⟨o, e⟩, fun _ _ ⟨o', e', r⟩ k => ⟨o', k _ e', r⟩⟩
section
variable {X : Cx} {ca : Ca} {W : XK} {pins : List (Addr × Obj)} {σ : L2.St} {H : Hp} {s : Shared} {μ : List Addr}
theorem entH_of (I : Inv X pins σ H s) : ∀ {kvs : List (D × D)} {l : List DictEntry}, Paired (EntR X.K X.w μ H) kvs l → Paired (EntH X.w s.heap) kvs l
  | _, _, .nil => .nil
  | _, _, .cons h t => by
    obtain ⟨k, r1, r2⟩ := h.key
    obtain ⟨as, rd⟩ := Dp.reads I _ _ _ (key_dp 6 _ _ h.ok r2) r1
    exact .cons ⟨h.hash, h.ok, as, rd⟩ (entH_of I t)
theorem key_reads (I : Inv X pins σ H s) {d : D} {v : V} {u : Value} (hk : keyOk 6 d = true) (r : RV X.K μ H d v) (ru : RelV v u) : ∃ as, Reads s.heap u (toP d) as := Dp.reads I _ _ _ (key_dp 6 _ _ hk r) ru
theorem dictOk_key {kvs : List (D × D)} {k : D} (h : dictOk kvs k = true) : keyOk 6 k = true := by
  unfold dictOk at h
  rw [Bool.and_eq_true] at h
  exact h.1
theorem dic_in {st : Sto} {kvs : List (D × D)} {k : D} {vk : V} {uk : Value} {a : Addr} {ep : Nat} {E : Value → Shared → Prop} {Q : Bool → Shared → Prop} (hu : X.A.units + 65 < cLine) (I : Inv X pins σ H s) (rs : RS X.K X.w ca μ st H)
    (r : RO X.K X.w ca μ H (.dic kvs ep) a) (hk : dictOk kvs k = true) (rk : RV X.K μ H k vk) (ru : RelV vk uk) (hq : ∀ tk, Q (dget kvs k).isSome { s with toks := tk }) :
    wpAny (model X.prog X.w) X.A (contains (.ref a) uk) Q E s := by
  obtain ⟨es, e, hs, hz, hn, hp⟩ := r
  obtain ⟨o, ho, hc, hd⟩ := rawD_at I.hok e
  obtain ⟨as, rd⟩ := key_reads I (dictOk_key hk) rk ru
  exact in_raw (by omega) hs ho hc hd (entH_of I hp) hn hk rd hq
theorem memD_dic {st : Sto} {x : D} {k : Nat} {kvs : List (D × D)} {ep : Nat} (e : st[k]? = some (.dic kvs ep)) : memD st x (.ref k) = if dictOk kvs x then some (dget kvs x).isSome else none := by
  unfold memD; simp only [e]
theorem memD_seq {st : Sto} {x y : D} (h : ∀ k kvs ep, y = .ref k → st[k]? ≠ some (.dic kvs ep)) {b : Bool} (e : memD st x y = some b) :
    ∃ p bs, snap st deep x = some p ∧ (snap st deep y = some (.list bs) ∨ snap st deep y = some (.tuple bs)) ∧ b = bs.any fun z => PyData.eqv z p := by
  unfold memD at e
  split at e
  · rename_i k
    split at e
    · rename_i kvs ep hk
      exact absurd hk (h k kvs ep rfl)
    · split at e
      · rename_i p bs e1 e2
        cases e
        exact ⟨p, bs, e1, .inl e2, rfl⟩
      · cases e
  · split at e
    · rename_i p bs e1 e2
      cases e
      exact ⟨p, bs, e1, .inl e2, rfl⟩
    · cases e
  · split at e
    · rename_i p bs e1 e2
      cases e
      exact ⟨p, bs, e1, .inr e2, rfl⟩
    · cases e
theorem opr_mem (hu : X.A.units + 65 < cLine) : OpR X (compareOp .In) (rCmp X ca W .mem) := by
  intro pins s σ H vx vy v u Q I rx ry ⟨μ, st, x, y, rs, hx, hy, h⟩
  obtain ⟨b, e, q⟩ := Po.bool (o := memD st x y) h rs
  by_cases hd : ∃ k kvs ep, y = .ref k ∧ st[k]? = some (.dic kvs ep)
  · obtain ⟨k, kvs, ep, rfl, hk⟩ := hd
    obtain ⟨a, rfl, _, ro⟩ := rs.ref hy hk
    rw [memD_dic hk] at e
    split at e
    · rename_i hok
      cases e
      cases ry
      show wpAny _ _ (do return Value.bool (← contains (.ref a) v)) _ _ s
      exact wpAny_bind (dic_in hu I rs ro hok hx rx fun tk => wpAny_pure ⟨.bl _, H, I.tok tk, rfl, q⟩)
    · cases e
  · obtain ⟨p, bs, e1, e2, rfl⟩ := memD_seq (fun k kvs ep ey hk => hd ⟨k, kvs, ep, ey, hk⟩) e
    have s1 := snap_shaped deep64 e1
    obtain ⟨as, r1⟩ := Dp.reads I p vx v (snap_dp rs _ _ _ _ hx e1) rx
    rcases e2 with e2 | e2
    · have s2 := snap_shaped deep64 e2
      obtain ⟨cs, r2⟩ := Dp.reads I (.list bs) vy u (snap_dp rs _ _ _ _ hy e2) ry
      exact SeqAt.in_list_reads r2 r1 (SeqAt.canLay_of_shaped s2) (SeqAt.canLay_of_shaped s1) (room_in_shaped s1 hu) ⟨.bl _, H, I, rfl, q⟩
    · have s2 := snap_shaped deep64 e2
      obtain ⟨cs, r2⟩ := Dp.reads I (.tuple bs) vy u (snap_dp rs _ _ _ _ hy e2) ry
      exact SeqAt.in_tuple_reads r2 r1 (SeqAt.canLay_of_shaped s2) (SeqAt.canLay_of_shaped s1) (room_in_shaped s1 hu) ⟨.bl _, H, I, rfl, q⟩
theorem opr_nmem (hu : X.A.units + 65 < cLine) : OpR X (compareOp .NotIn) (rCmp X ca W .nmem) := by
  intro pins s σ H vx vy v u Q I rx ry ⟨μ, st, x, y, rs, hx, hy, h⟩
  obtain ⟨b, e, q⟩ := Po.bool (o := (memD st x y).map not) h rs
  obtain ⟨c, e', rfl⟩ := Option.map_eq_some_iff.mp e
  by_cases hd : ∃ k kvs ep, y = .ref k ∧ st[k]? = some (.dic kvs ep)
  · obtain ⟨k, kvs, ep, rfl, hk⟩ := hd
    obtain ⟨a, rfl, _, ro⟩ := rs.ref hy hk
    rw [memD_dic hk] at e'
    split at e'
    · rename_i hok
      cases e'
      cases ry
      show wpAny _ _ (do return Value.bool (!(← contains (.ref a) v))) _ _ s
      exact wpAny_bind (dic_in hu I rs ro hok hx rx fun tk => wpAny_pure ⟨.bl _, H, I.tok tk, rfl, q⟩)
    · cases e'
  · obtain ⟨p, bs, e1, e2, rfl⟩ := memD_seq (fun k kvs ep ey hk => hd ⟨k, kvs, ep, ey, hk⟩) e'
    have s1 := snap_shaped deep64 e1
    obtain ⟨as, r1⟩ := Dp.reads I p vx v (snap_dp rs _ _ _ _ hx e1) rx
    rcases e2 with e2 | e2
    · have s2 := snap_shaped deep64 e2
      obtain ⟨cs, r2⟩ := Dp.reads I (.list bs) vy u (snap_dp rs _ _ _ _ hy e2) ry
      exact SeqAt.notIn_list_reads r2 r1 (SeqAt.canLay_of_shaped s2) (SeqAt.canLay_of_shaped s1) (room_in_shaped s1 hu) ⟨.bl _, H, I, rfl, q⟩
    · have s2 := snap_shaped deep64 e2
      obtain ⟨cs, r2⟩ := Dp.reads I (.tuple bs) vy u (snap_dp rs _ _ _ _ hy e2) ry
      exact SeqAt.notIn_tuple_reads r2 r1 (SeqAt.canLay_of_shaped s2) (SeqAt.canLay_of_shaped s1) (room_in_shaped s1 hu) ⟨.bl _, H, I, rfl, q⟩

/-! ### items -/
abbrev rIx (X : Cx) (ca : Ca) (W : XK) : R2 := fun vx vy H Q => ∃ μ st x y, RS X.K X.w ca μ st H ∧ RV X.K μ H x vx ∧ RV X.K μ H y vy ∧ Po X.K X.w ca W (RV X.K) μ H (idxD x y st) Q
theorem place_ixN (n : Nat) (i : Int) : place n i = ixN n i := rfl
theorem at_rv {K : PySem.W.Frag} {μ : List Addr} {H : Hp} {xs : List D} {vs : List V} {j : Int} {d : D} (r : RVs K μ H xs vs) (h : (place xs.length j).bind (xs[·]?) = some d) : ∃ v, atI vs j = some v ∧ RV K μ H d v := by
  obtain ⟨n, h1, h2⟩ := Option.bind_eq_some_iff.mp h
  obtain ⟨v, h3, h4⟩ := r.get h2
  refine ⟨v, ?_, h4⟩
  unfold atI
  rw [← r.length, ← place_ixN, h1]
  exact h3
theorem Po.item {μ : List Addr} {H : Hp} {st : Sto} {o : Option D} {Q : VK} (h : Po X.K X.w ca W (RV X.K) μ H (match o with | some v => (.ok v st : Out D) | none => .no) Q) : ∃ d, o = some d ∧ Po X.K X.w ca W (RV X.K) μ H (.ok d st) Q := by
  cases o with
  | none => exact False.elim h
  | some d => exact ⟨d, rfl, h⟩
/-- the entry at a place -/
theorem ent_val {kvs : List (D × D)} {l : List DictEntry} {μ : List Addr} {H : Hp} {j : Nat} {k d : D} (hp : Paired (EntR X.K X.w μ H) kvs l) (h : kvs[j]? = some (k, d)) : ∃ en v, l[j]? = some en ∧ RelV v en.val ∧ RV X.K μ H d v := by
  obtain ⟨en, h1, h2⟩ := paired_at hp h
  obtain ⟨v, h3, h4⟩ := h2.val
  exact ⟨en, v, h1, h3, h4⟩
theorem opr_idx (hu : X.A.units + 65 < cLine) : IxR X (rIx X ca W) := by
  intro value slice pins s σ H vx vy v u Q I rx ry ⟨μ, st, x, y, rs, hx, hy, h⟩ hs
  cases hx with
  | tup ha hr =>
    cases hy with
    | int j =>
      simp only [idxD] at h
      obtain ⟨d, e, q⟩ := Po.item h
      obtain ⟨w', h1, h2⟩ := at_rv hr e
      exact ix_tup value slice pins s σ H _ _ v u Q I rx ry ⟨_, _, j, w', rfl, rfl, ha, h1, q.here rs h2⟩ hs
    | _ => exact False.elim h
  | frz ha hr =>
    cases hy with
    | int j =>
      simp only [idxD] at h
      obtain ⟨d, e, q⟩ := Po.item h
      obtain ⟨w', h1, h2⟩ := at_rv hr e
      exact ix_list value slice pins s σ H _ _ v u Q I rx ry ⟨_, _, j, w', rfl, rfl, ha.sq, h1, q.here rs h2⟩ hs
    | _ => exact False.elim h
  | ref hn =>
    rename_i n a
    obtain ⟨o, ho, ro⟩ := rs.obj hn
    simp only [idxD, ho] at h
    cases o with
    | lst xs =>
      cases hy with
      | int j =>
        obtain ⟨vs, e1, r1⟩ := ro
        obtain ⟨d, e, q⟩ := Po.item h
        obtain ⟨w', h1, h2⟩ := at_rv r1 e
        exact ix_list value slice pins s σ H _ _ v u Q I rx ry ⟨_, _, j, w', rfl, rfl, .of e1, h1, q.here rs h2⟩ hs
      | _ => exact False.elim h
    | dic kvs ep =>
      simp only at h
      split at h
      · rename_i hk
        obtain ⟨d, e, q⟩ := Po.item h
        cases rx
        obtain ⟨es, e1, hsys, hz, hnd, hp⟩ := ro
        obtain ⟨o, g1, g2, g3⟩ := rawD_at I.hok e1
        obtain ⟨as, rd⟩ := key_reads I (dictOk_key hk) hy ry
        cases ei : didx kvs y with
        | none => rw [(dget_none ei).1] at e; cases e
        | some j =>
          obtain ⟨d', h1, h2, _⟩ := dget_some ei
          rw [h2] at e
          cases e
          obtain ⟨en, w', l1, l2, l3⟩ := ent_val hp h1
          have l1' : es[j]? = some en := by rw [← Array.getElem?_toList]; exact l1
          exact subscriptTail_builtinR (x := en.val) (T := "dict") ⟨o, g1, g2.1⟩ slot_dict_getitem.lookup
            (item_raw (by omega) g1 g2 g3 (entH_of I hp) hnd hk rd ei l1' fun tk => ⟨rfl, w', H, I.tok tk, l2, q.here rs l3⟩) hs
      · exact False.elim h
    | exc c w' => exact False.elim h
  | _ => exact False.elim h
/-- a slice's places -/
theorem bound_sIx (n d : Nat) (o : Option Int) : HT.sIx n d o = match o with | none => d | some i => bound n i := by
  cases o <;> rfl
theorem cut_sIx {α : Type} (xs : List α) (lo hi : Option Int) : cut xs lo hi = (xs.take (HT.sIx xs.length xs.length hi)).drop (HT.sIx xs.length 0 lo) := by
  cases lo <;> cases hi <;> rfl
theorem cut_rv {K : PySem.W.Frag} {μ : List Addr} {H : Hp} {xs : List D} {vs : List V} {lo hi : Option Int} (r : RVs K μ H xs vs) : RVs K μ H (cut xs lo hi) (cutV vs lo hi) := by
  have e : cutV vs lo hi = (vs.take (HT.sIx vs.length vs.length hi)).drop (HT.sIx vs.length 0 lo) := by
    unfold cutV
    rw [List.drop_take]
  rw [e, cut_sIx, r.length]
  exact (r.take _).drop _
abbrev rSl (X : Cx) (ca : Ca) (W : XK) : V → Option Int → Option Int → Hp → VK → Prop := fun vx lo hi H Q => ∃ μ st x, RS X.K X.w ca μ st H ∧ RV X.K μ H x vx ∧ Po X.K X.w ca W (RV X.K) μ H (sliceD x lo hi st) Q
theorem opr_slice : SlR X (rSl X ca W) := by
  intro pins s σ H vx v vl vu lo hi sl Q I rx hs pl pu ⟨μ, st, x, rs, hx, h⟩
  cases hx with
  | tup ha hr =>
    rename_i a vs ds
    refine sl_tupA pins s σ H _ v vl vu lo hi sl Q I rx hs pl pu ⟨a, vs, rfl, ha, fun hw => ?_, fun _ => h.newU rs (cut_rv hr)⟩
    have e : cut ds lo hi = ds := by
      have h1 := hw.1
      have h2 := hw.2
      rw [← hr.length] at h1 h2
      rw [cut_sIx, h1, h2]
      simp
    have h' : Po X.K X.w ca W (RV X.K) μ H (.ok (.tup ds) st) Q := by
      rw [← e]; exact h
    exact h'.oldU rs hr ha
  | frz ha hr =>
    rename_i a vs ds
    obtain ⟨_, q⟩ := Po.newL h rs (cut_rv hr)
    exact sl_list pins s σ H _ v vl vu lo hi sl Q I rx hs pl pu ⟨a, vs, rfl, ha.sq, q⟩
  | ref hn =>
    rename_i n a
    obtain ⟨o, ho, ro⟩ := rs.obj hn
    simp only [sliceD, ho] at h
    cases o with
    | lst xs =>
      obtain ⟨vs, e1, r1⟩ := ro
      obtain ⟨_, q⟩ := Po.newL h rs (cut_rv r1)
      exact sl_list pins s σ H _ v vl vu lo hi sl Q I rx hs pl pu ⟨a, vs, rfl, .of e1, q⟩
    | _ => exact False.elim h
  | _ => exact False.elim h

/-! ### x[i] = v -/
/-- what is wanted behind a store: the new store -/
abbrev rPut (X : Cx) (ca : Ca) : TSet := fun vx vi vv H Q => ∃ μ st x i v st', RS X.K X.w ca μ st H ∧ RV X.K μ H x vx ∧ RV X.K μ H i vi ∧ RV X.K μ H v vv ∧ putD x i v st = some st' ∧
  ∀ μ' H', Xt X.K μ H μ' H' → RS X.K X.w ca μ' st' H' → Q H'
theorem Paired.snoc {α β : Type} {F : α → β → Prop} {xs : List α} {ys : List β} {x : α} {y : β} (h : Paired F xs ys) (k : F x y) : Paired F (xs ++ [x]) (ys ++ [y]) := by
  induction h with
  | nil => exact .cons k .nil
  | cons r t ih => exact .cons r ih
theorem Paired.setF {α β : Type} {F : α → β → Prop} : ∀ {xs : List α} {ys : List β} {x : α} (f : β → β) (j : Nat), Paired F xs ys → (∀ y, ys[j]? = some y → F x (f y)) → Paired F (xs.set j x) (ys.modify j f)
  | _, _, _, _, _, .nil, _ => by simp; exact .nil
  | _, _, _, _, 0, .cons r t, k => by simpa using Paired.cons (k _ rfl) t
  | _, _, _, f, j + 1, .cons r t, k => by simpa using Paired.cons r (Paired.setF f j t fun y hy => k y (by simpa using hy))
theorem dput_keys (kvs : List (D × D)) (k v : D) (h : (kvs.map (·.1)).Nodup) : ((dput kvs k v).map (·.1)).Nodup := by
  cases e : didx kvs k with
  | none =>
    rw [(dget_none e).2 v, List.map_append, List.nodup_append]
    refine ⟨h, by simp, fun a ha b hb z => ?_⟩
    simp only [List.map_cons, List.map_nil, List.mem_singleton] at hb
    subst hb z
    exact didx_none_iff.mp e ha
  | some j =>
    obtain ⟨u, h1, _, h2⟩ := dget_some e
    rw [h2 v, List.map_set]
    have : (kvs.map (·.1)).set j k = kvs.map (·.1) := by
      have hj : (kvs.map (·.1))[j]? = some k := by rw [List.getElem?_map, h1]; rfl
      obtain ⟨hl, he⟩ := List.getElem?_eq_some_iff.mp hj
      rw [← he]
      exact List.set_getElem_self ..
    simp only at this ⊢
    rw [this]; exact h
theorem dput_len (kvs : List (D × D)) (k v : D) : (dput kvs k v).length ≤ kvs.length + 1 := by
  cases e : didx kvs k with
  | none => rw [(dget_none e).2 v]; simp
  | some j => obtain ⟨u, h1, _, h2⟩ := dget_some e; rw [h2 v]; simp
theorem ent_put {X : Cx} {μ : List Addr} {H : Hp} {kvs : List (D × D)} {es : Array DictEntry} {i d : D} {vi vv : V} {iv u : Value} (hp : Paired (EntR X.K X.w μ H) kvs es.toList) (hk : dictOk kvs i = true) (ri : RelV vi iv) (hi : RV X.K μ H i vi) (rv : RelV vv u) (hv : RV X.K μ H d vv) :
    Paired (EntR X.K X.w μ H) (dput kvs i d) (putE X.w kvs i es iv u).toList := by
  cases e : didx kvs i with
  | none =>
    have e2 : (putE X.w kvs i es iv u).toList = es.toList ++ [⟨hashK X.w 8 i, iv, u⟩] := by unfold putE; rw [e]; simp
    rw [(dget_none e).2 d, e2]
    exact Paired.snoc hp ⟨rfl, dictOk_key hk, ⟨_, ri, hi⟩, ⟨_, rv, hv⟩⟩
  | some j =>
    obtain ⟨w', h1, _, h2⟩ := dget_some e
    have e2 : (putE X.w kvs i es iv u).toList = es.toList.modify j fun e => { e with val := u } := by unfold putE; rw [e]; simp
    rw [h2 d, e2]
    refine Paired.setF _ j hp fun en hen => ?_
    obtain ⟨en', f1, f2⟩ := paired_at hp h1
    rw [hen] at f1
    cases f1
    exact ⟨f2.hash, f2.ok, f2.key, ⟨_, rv, hv⟩⟩
theorem opr_put (hu : X.A.units + 65 < cLine) : PSet X (rPut X ca) := by
  intro pins s σ H vx vi vv ov iv u Q I ro ri rv ⟨μ, st, x, i, d, st', rs, hx, hi, hv, h, q⟩
  unfold putD at h
  cases hx with
  | ref hn =>
    rename_i n a
    obtain ⟨o, ho, r⟩ := rs.obj hn
    simp only [ho] at h
    cases o with
    | lst xs =>
      cases hi with
      | int j =>
        obtain ⟨vs, e1, r1⟩ := r
        obtain ⟨m, h1, h2⟩ := Option.map_eq_some_iff.mp h
        subst h2
        refine set_list pins s σ H _ _ _ ov iv u Q I ro ri rv ⟨a, vs, j, m, rfl, rfl, e1, ?_, ?_⟩
        · rw [← r1.length, ← place_ixN]; exact h1
        · have x1 : Xt X.K μ H μ (upd H a (.lst (vs.set m vv))) := rs.put_xt (List.mem_of_getElem? hn)
          exact q μ _ x1 (rs.put hn ⟨_, upd_same, (r1.mono x1).set m (hv.mono x1)⟩)
      | _ => simp at h
    | dic kvs ep =>
      simp only at h
      split at h
      · rename_i hk
        rw [Bool.and_eq_true, decide_eq_true_eq, lim_eq] at hk
        obtain ⟨hk, hlen⟩ := hk
        cases h
        cases ro
        obtain ⟨es, e1, hsys, hz, hnd, hp⟩ := r
        obtain ⟨o, g1, g2, g3⟩ := rawD_at I.hok e1
        obtain ⟨as, rd⟩ := key_reads I (dictOk_key hk) hi ri
        refine set_raw (by omega) g1 g2 g3 (entH_of I hp) hnd hk hz rd fun h' tk o' k1 k2 k3 sb => ?_
        refine ⟨upd H a (RawD a (putE X.w kvs i es iv u) (if (dget kvs i).isSome then ep else ep + 1)), I.write (t' := tk) (x := a) (e := a) (by rw [e1]; exact trivial) (.inl rfl) (fun b ob hb hob => (sb.2 b hb).trans hob) ⟨o', k1⟩ (rawD_ok k1 k2 k3), ?_⟩
        have x1 : Xt X.K μ H μ (upd H a (RawD a (putE X.w kvs i es iv u) (if (dget kvs i).isSome then ep else ep + 1))) := rs.put_xt (List.mem_of_getElem? hn)
        have l1 := dput_len kvs i d
        refine q μ _ x1 (rs.put hn ⟨_, upd_same, hsys, by omega, dput_keys kvs i d hnd, ?_⟩)
        have hp' : Paired (EntR X.K X.w μ (upd H a (RawD a (putE X.w kvs i es iv u) (if (dget kvs i).isSome then ep else ep + 1)))) kvs es.toList := Paired.map2 hp fun _ _ z => z.mono x1
        cases e : didx kvs i with
        | none =>
          have e2 : (putE X.w kvs i es iv u).toList = es.toList ++ [⟨hashK X.w 8 i, iv, u⟩] := by unfold putE; rw [e]; simp
          rw [(dget_none e).2 d, e2]
          exact Paired.snoc hp' ⟨rfl, dictOk_key hk, ⟨_, ri, hi.mono x1⟩, ⟨_, rv, hv.mono x1⟩⟩
        | some j =>
          obtain ⟨w', h1, _, h2⟩ := dget_some e
          have e2 : (putE X.w kvs i es iv u).toList = es.toList.modify j fun e => { e with val := u } := by unfold putE; rw [e]; simp
          rw [h2 d, e2]
          refine Paired.setF _ j hp' fun en hen => ?_
          obtain ⟨en', f1, f2⟩ := paired_at hp' h1
          rw [hen] at f1
          cases f1
          exact ⟨f2.hash, f2.ok, f2.key, ⟨_, rv, hv.mono x1⟩⟩
      · cases h
    | _ => simp at h
  | _ => simp at h
end
end Mi

set_option Elab.async false
set_option linter.all false
set_option maxRecDepth 100000
set_option maxHeartbeats 1000000
/-! Mi, part G: built-in functions and methods by values. -/
namespace Mi
open PySem PySem.Spec PyProof.Rows L2

/-! ### len of a dict -/
section
variable {prog : Program} {w : World} {A : Around} {E : Value → Shared → Prop} {s : Shared}
theorem meets_len_raw (d : Addr) (hd : (d == sysModules) = false) (n : Nat) :
    MeetsIn prog w (Builtin.«dict.__len__» ⟨[.ref d], []⟩) (fun _ R s => (∃ o es ep, s.heap.get? d = some o ∧ o.data = .dict es ep ∧ es.size = n) ∧ R (.ok (.ret (.int n s.toks))) { s with toks := s.toks + 1 }) :=
  .of_wp fun A R s ⟨⟨o, es, ep, ho, hdat, hn⟩, h⟩ => by
    show wpAny _ _ (dictSize d >>= _) _ _ s
    unfold dictSize
    refine wpAny_bind (wpAny_bind (wpAny_dictEntries ho hdat (wpAny_pure ?_)))
    show wpAny _ _ (Builtin.Dict.pendingCount d >>= _) _ _ s
    refine wpAny_bind (wpAny_pendingCount_other hd ?_)
    refine wpAny_ret_mkInt ?_
    rw [Nat.add_zero, hn]; exact h
theorem len_raw {d : Addr} {o : Obj} {es : Array DictEntry} {ep n : Nat} {Q : Value → Shared → Prop} (hd : (d == sysModules) = false) (ho : s.heap.get? d = some o) (hc : o.ExactDict) (hdat : o.data = .dict es ep) (hn : es.size = n) (hfit : (n : Int) < 2 ^ 63)
    (h : Q (.int n (s.toks + 1)) { s with toks := s.toks + 1 + 1 }) : wpAny (model prog w) A (call (.builtin "len") [.ref d]) Q E s := by
  have hT : s.TypeIs (.ref d) "dict" := ⟨o, ho, hc.1⟩
  refine Calls.call_function_entry kind_len plain_len entry_len (args_len1 _) ?_
  unfold Builtin.«len»
  refine wpAny_bind (m := oneArg "len" _) (wpAny_pure ?_)
  refine wpAny_bind (m := callSpecial? (.ref d) (Str.ofString "__len__")) (wpAny_callSpecial?_slot (name := Str.ofString "__len__") hT F.slot_dict_len
    (call_meetsIn F.slot_dict_len hT F.entry_dict_len (F.args_dict_len_1 _) (meets_len_raw d hd n) ⟨⟨o, es, ep, ho, hdat, hn⟩, ?_⟩))
  show wpAny _ _ _ _ _ { s with toks := s.toks + 1 }
  refine wpAny_bind (wpAny_holding (wpAny_pure ?_))
  refine wpAny_bind (wpAny_letGo ?_)
  show wpAny _ _ (if ((n : Nat) : Int) < 0 then _ else _) _ _ _
  rw [if_neg (by omega)]
  show wpAny _ _ (if ((n : Nat) : Int) ≥ 2 ^ 63 then _ else _) _ _ _
  rw [if_neg (by omega)]
  exact wpAny_bind (wpAny_mkInt (wpAny_pure ⟨_, rfl, h⟩))
end

section
variable {X : Cx} {ca : Ca} {W : XK}
abbrev rBi (X : Cx) (ca : Ca) (W : XK) (f : Bi) : List V → Hp → VK → Prop := fun vs H Q => ∃ μ st ds, RS X.K X.w ca μ st H ∧ RVs X.K μ H ds vs ∧ Po X.K X.w ca W (RV X.K) μ H (biD f ds st) Q
theorem RVs.one {K : PySem.W.Frag} {μ : List Addr} {H : Hp} {d : D} {vs : List V} (r : RVs K μ H [d] vs) : ∃ v, vs = [v] ∧ RV K μ H d v := by
  cases r with | cons h t => cases t; exact ⟨_, rfl, h⟩
theorem RVs.two {K : PySem.W.Frag} {μ : List Addr} {H : Hp} {d e : D} {vs : List V} (r : RVs K μ H [d, e] vs) : ∃ v u, vs = [v, u] ∧ RV K μ H d v ∧ RV K μ H e u := by
  cases r with | cons h t => cases t with | cons h2 t => cases t; exact ⟨_, _, rfl, h, h2⟩
/-- a sequence as it is read -/
theorem seq_of {K : PySem.W.Frag} {w : World} {μ : List Addr} {H : Hp} {st : Sto} {d : D} {v : V} {xs : List D} (rs : RS K w ca μ st H) (r : RV K μ H d v) (h : isSeq st d = some xs) :
    ∃ a vs, v = .ref a ∧ RVs K μ H xs vs ∧ ((∃ ys, d = .tup ys ∧ SqT K H a vs) ∨ ((∀ ys, d ≠ .tup ys) ∧ SqL K H a vs)) := by
  cases r with
  | tup ha hr => cases h; exact ⟨_, _, rfl, hr, .inl ⟨_, rfl, ha⟩⟩
  | frz ha hr => cases h; exact ⟨_, _, rfl, hr, .inr ⟨(fun _ z => by cases z), ha.sq⟩⟩
  | ref hn =>
    obtain ⟨o, ho, ro⟩ := rs.obj hn
    simp only [isSeq, ho] at h
    cases o with
    | lst ys => cases h; obtain ⟨vs, e, r⟩ := ro; exact ⟨_, _, rfl, r, .inr ⟨(fun _ z => by cases z), .of e⟩⟩
    | _ => cases h
  | _ => cases h
/-- one argument, or nothing is told -/
theorem arg1 {α : Type} {ds : List D} {f : List D → Out α} (hf : ∀ ds, ds.length ≠ 1 → f ds = .no) (h : f ds ≠ .no) : ∃ d, ds = [d] := by
  match ds with
  | [d] => exact ⟨d, rfl⟩
  | [] => exact absurd (hf [] (by simp)) h
  | a :: b :: r => exact absurd (hf (a :: b :: r) (by simp)) h
theorem Po.ne {α β : Type} {K : PySem.W.Frag} {w : World} {R : List Addr → Hp → α → β → Prop} {μ : List Addr} {H : Hp} {o : Out α} {Q : β → Hp → Prop} (h : Po K w ca W R μ H o Q) : o ≠ .no := fun e => by
  rw [e] at h; exact h
theorem bi_one {f : Bi} (hf : f ≠ .max2 ∧ f ≠ .min2) {ds : List D} {st : Sto} (h : biD f ds st ≠ .no) : ∃ d, ds = [d] := by
  match ds with
  | [d] => exact ⟨d, rfl⟩
  | [] => exact absurd (by cases f <;> rfl) h
  | a :: b :: r =>
    refine absurd ?_ h
    cases f <;> first
      | rfl
      | (cases a <;> rfl)
      | (simp at hf)
theorem cal_len : CallR X (.builtin "len") (rBi X ca W .len) := by
  intro pins s σ H vs us Q I r ⟨μ, st, ds, rs, rd, h⟩
  obtain ⟨d, rfl⟩ := bi_one (by decide) h.ne
  obtain ⟨v, rfl, r1⟩ := rd.one
  cases r1 with
  | str x =>
    simp only [biD] at h
    split at h
    · rename_i hl
      rw [lim_eq] at hl
      exact call_len pins s σ H _ us Q I r ⟨_, _, rfl, ⟨hl, rfl⟩, h.here rs (.int _)⟩
    · exact False.elim h
  | tup ha hr =>
    refine call_len_seq pins s σ H _ us Q I r ⟨_, _, rfl, .inr ha, ?_⟩
    rw [← hr.length]
    exact h.here rs (.int _)
  | frz ha hr =>
    refine call_len_seq pins s σ H _ us Q I r ⟨_, _, rfl, .inl ha.sq, ?_⟩
    rw [← hr.length]
    exact h.here rs (.int _)
  | ref hn =>
    rename_i n a
    obtain ⟨o, ho, ro⟩ := rs.obj hn
    simp only [biD, ho] at h
    cases o with
    | lst ys =>
      obtain ⟨vs, e, r2⟩ := ro
      refine call_len_seq pins s σ H _ us Q I r ⟨_, _, rfl, .inl (.of e), ?_⟩
      rw [← r2.length]
      exact h.here rs (.int _)
    | dic kvs ep =>
      obtain ⟨es, e, hs, hz, hn, hp⟩ := ro
      obtain ⟨o, g1, g2, g3⟩ := rawD_at I.hok e
      obtain ⟨u, rfl, rx⟩ := vals1 r
      cases rx
      refine len_raw (n := kvs.length) hs g1 g2 g3 ?_ ?_ ⟨.int (kvs.length : Nat), H, I.tok _, ⟨_, rfl⟩, h.here rs (.int _)⟩
      · rw [← Array.length_toList]; exact (PySem.Paired.length hp).symm
      · have := sizeLine_eq; omega
    | _ => exact False.elim h
  | _ => exact False.elim h
theorem cal_int : CallR X (.type "int") (rBi X ca W .int) := by
  intro pins s σ H vs us Q I r ⟨μ, st, ds, rs, rd, h⟩
  obtain ⟨d, rfl⟩ := bi_one (by decide) h.ne
  obtain ⟨v, rfl, r1⟩ := rd.one
  cases r1 with
  | int i => exact call_int1 pins s σ H _ us Q I r (.inl ⟨i, rfl, h.here rs (.int _)⟩)
  | bl b => exact call_int1 pins s σ H _ us Q I r (.inr ⟨b, rfl, h.here rs (.int _)⟩)
  | _ => exact False.elim h
theorem cal_abs : CallR X (.builtin "abs") (rBi X ca W .abs) := by
  intro pins s σ H vs us Q I r ⟨μ, st, ds, rs, rd, h⟩
  obtain ⟨d, rfl⟩ := bi_one (by decide) h.ne
  obtain ⟨v, rfl, r1⟩ := rd.one
  cases r1 with
  | int i => exact call_abs pins s σ H _ us Q I r ⟨i, rfl, h.here rs (.int _)⟩
  | _ => exact False.elim h
theorem cal_sum (hc : X.calm = true) : CallR X (.builtin "sum") (rBi X ca W .sum) := by
  intro pins s σ H vs us Q I r ⟨μ, st, ds, rs, rd, h⟩
  obtain ⟨d, rfl⟩ := bi_one (by decide) h.ne
  obtain ⟨v, rfl, r1⟩ := rd.one
  cases r1 with
  | ref hn =>
    rename_i k a
    simp only [biD] at h
    split at h
    · rename_i is e
      obtain ⟨xs, e1, e2⟩ := Option.bind_eq_some_iff.mp e
      obtain ⟨a', vs, ea, r2, r3⟩ := seq_of (K := X.K) rs (.ref hn) e1
      cases ea
      rcases r3 with ⟨ys, z, _⟩ | ⟨_, r3⟩
      · cases z
      · have := r2.ints e2
        subst this
        exact cr_sum hc pins s σ H _ us Q I r ⟨_, is, rfl, r3, h.here rs (.int _)⟩
    · exact False.elim h
  | _ => exact False.elim h
theorem bi_two {f : Bi} (hf : f = .max2 ∨ f = .min2) {ds : List D} {st : Sto} (h : biD f ds st ≠ .no) : ∃ i j, ds = [.int i, .int j] := by
  match ds with
  | [] => exact absurd (by rcases hf with rfl | rfl <;> rfl) h
  | [a] => exact absurd (by rcases hf with rfl | rfl <;> (cases a <;> rfl)) h
  | [a, b] =>
    cases a with
    | int i => cases b with
      | int j => exact ⟨i, j, rfl⟩
      | _ => exact absurd (by rcases hf with rfl | rfl <;> rfl) h
    | _ => exact absurd (by rcases hf with rfl | rfl <;> rfl) h
  | a :: b :: c :: r => exact absurd (by rcases hf with rfl | rfl <;> (cases a <;> first | rfl | (cases b <;> rfl))) h
theorem cal_max2 (hc : X.calm = true) : CallR X (.builtin "max") (rBi X ca W .max2) := by
  intro pins s σ H vs us Q I r ⟨μ, st, ds, rs, rd, h⟩
  obtain ⟨i, j, rfl⟩ := bi_two (.inl rfl) h.ne
  obtain ⟨v, u, rfl, r1, r2⟩ := rd.two
  cases r1
  cases r2
  exact call_max2 hc pins s σ H _ us Q I r ⟨i, j, rfl, h.here rs (.int _)⟩
theorem cal_min2 (hc : X.calm = true) : CallR X (.builtin "min") (rBi X ca W .min2) := by
  intro pins s σ H vs us Q I r ⟨μ, st, ds, rs, rd, h⟩
  obtain ⟨i, j, rfl⟩ := bi_two (.inr rfl) h.ne
  obtain ⟨v, u, rfl, r1, r2⟩ := rd.two
  cases r1
  cases r2
  exact call_min2 hc pins s σ H _ us Q I r ⟨i, j, rfl, h.here rs (.int _)⟩
theorem cal_tuple : CallR X (.type "tuple") (rBi X ca W .tuple) := by
  intro pins s σ H vs us Q I r ⟨μ, st, ds, rs, rd, h⟩
  obtain ⟨d, rfl⟩ := bi_one (by decide) h.ne
  obtain ⟨v, rfl, r1⟩ := rd.one
  simp only [biD] at h
  split at h
  · rename_i xs e1
    obtain ⟨a, vs, rfl, r2, r3⟩ := seq_of (K := X.K) rs r1 e1
    rcases r3 with ⟨ys, _, r3⟩ | ⟨_, r3⟩
    · exact call_tuple_of pins s σ H _ us Q I r ⟨_, _, rfl, .inr ⟨r3, h.oldU rs r2 r3⟩⟩
    · exact call_tuple_of pins s σ H _ us Q I r ⟨_, _, rfl, .inl ⟨r3, h.newU rs r2⟩⟩
  · exact False.elim h
theorem cal_list : CallR X (.type "list") (rBi X ca W .list) := by
  intro pins s σ H vs us Q I r ⟨μ, st, ds, rs, rd, h⟩
  obtain ⟨d, rfl⟩ := bi_one (by decide) h.ne
  obtain ⟨v, rfl, r1⟩ := rd.one
  simp only [biD] at h
  split at h
  · rename_i xs e1
    obtain ⟨a, vs, rfl, r2, r3⟩ := seq_of (K := X.K) rs r1 e1
    obtain ⟨_, q⟩ := Po.newL h rs r2
    refine call_list_of pins s σ H _ us Q I r ⟨_, _, rfl, ?_, q⟩
    rcases r3 with ⟨ys, _, r3⟩ | ⟨_, r3⟩
    · exact .inr r3
    · exact .inl r3
  · exact False.elim h
theorem RVs.bools {K : PySem.W.Frag} {μ : List Addr} {H : Hp} : ∀ {ds : List D} {vs : List V} {bs : List Bool}, RVs K μ H ds vs → seqOpt (fun | .bl b => some b | _ => none) ds = some bs → vs = bs.map V.bl
  | _, _, _, .nil, e => by simp [seqOpt] at e; subst e; rfl
  | d :: ds, _, bs, .cons h hs, e => by
    cases h <;> simp [seqOpt] at e
    rename_i b
    cases e2 : seqOpt (fun | D.bl b => some b | _ => none) ds with
    | none => simp [e2] at e
    | some js =>
      simp [e2] at e
      subst e
      rw [RVs.bools hs (bs := js) e2]
      rfl
theorem cal_all (hc : X.calm = true) : CallR X (.builtin "all") (rBi X ca W .all) := by
  intro pins s σ H vs us Q I r ⟨μ, st, ds, rs, rd, h⟩
  obtain ⟨d, rfl⟩ := bi_one (by decide) h.ne
  obtain ⟨v, rfl, r1⟩ := rd.one
  cases d with
  | ref k =>
    simp only [biD] at h
    split at h
    · rename_i bs e
      obtain ⟨xs, e1, e2⟩ := Option.bind_eq_some_iff.mp e
      obtain ⟨a, vs, rfl, r2, r3⟩ := seq_of (K := X.K) rs r1 e1
      rcases r3 with ⟨ys, z, _⟩ | ⟨_, r3⟩
      · cases z
      · have := r2.bools e2
        subst this
        exact cr_all hc pins s σ H _ us Q I r ⟨_, bs, rfl, r3, h.here rs (.bl _)⟩
    · exact False.elim h
  | _ => exact False.elim h
theorem cal_any (hc : X.calm = true) : CallR X (.builtin "any") (rBi X ca W .any) := by
  intro pins s σ H vs us Q I r ⟨μ, st, ds, rs, rd, h⟩
  obtain ⟨d, rfl⟩ := bi_one (by decide) h.ne
  obtain ⟨v, rfl, r1⟩ := rd.one
  cases d with
  | ref k =>
    simp only [biD] at h
    split at h
    · rename_i bs e
      obtain ⟨xs, e1, e2⟩ := Option.bind_eq_some_iff.mp e
      obtain ⟨a, vs, rfl, r2, r3⟩ := seq_of (K := X.K) rs r1 e1
      rcases r3 with ⟨ys, z, _⟩ | ⟨_, r3⟩
      · cases z
      · have := r2.bools e2
        subst this
        exact cr_any hc pins s σ H _ us Q I r ⟨_, bs, rfl, r3, h.here rs (.bl _)⟩
    · exact False.elim h
  | _ => exact False.elim h
theorem cal_repr (hg : X.A.guards = some []) (hu : X.A.units + 65 < cLine) : CallR X (.builtin "repr") (rBi X ca W .repr) := by
  intro pins s σ H vs us Q I r ⟨μ, st, ds, rs, rd, h⟩
  obtain ⟨d, rfl⟩ := bi_one (by decide) h.ne
  obtain ⟨v, rfl, r1⟩ := rd.one
  obtain ⟨u, rfl, rx⟩ := vals1 r
  simp only [biD] at h
  split at h
  · rename_i p e
    split at h
    · rename_i hs
      rw [Bool.and_eq_true, decide_eq_true_eq, lim_eq] at hs
      obtain ⟨dp, _⟩ := snap_depth deep d p e
      obtain ⟨as, rd⟩ := Dp.reads I p v u (snap_dp rs _ _ _ _ r1 e) rx
      have nd : p.hasDict = false := PyData.hasDict_of_canLay p (snap_depth deep d p e).2
      have q := h.here rs (.str _)
      have fin : ∀ {h' : Heap} {t tk : Nat}, (∀ b o, s.heap.get? b = some o → h'.get? b = some o) → EP X pins σ Q (.str p.shown t) { s with heap := h', toks := tk } := fun {h' t tk} hk => ⟨.str p.shown, H, I.kept hk, ⟨_, rfl⟩, q⟩
      cases rd with
      | none => exact PySem.P.repr_of_none (fin fun _ _ z => z)
      | bool b => exact PySem.P.repr_of_bool (fin fun _ _ z => z)
      | int i t => exact PySem.P.repr_of_int (by simpa [PyData.showable] using hs.1) (fin fun _ _ z => z)
      | str x t => exact PySem.P.repr_of_str (fin fun _ _ z => z) hs.2
      | list a b c d => exact repr_of_reads' (.list a b c d) hs.1 (fun z => by rw [nd] at z; cases z) hg (by have : deep = 16 := rfl; omega) (fun _ _ z => z) (fun h' u tk hk => fin hk) hs.2
      | tuple a b c d => exact repr_of_reads' (.tuple a b c d) hs.1 (fun z => by rw [nd] at z; cases z) hg (by have : deep = 16 := rfl; omega) (fun _ _ z => z) (fun h' u tk hk => fin hk) hs.2
      | dict a b c d f => exact repr_of_reads' (.dict a b c d f) hs.1 (fun z => by rw [nd] at z; cases z) hg (by have : deep = 16 := rfl; omega) (fun _ _ z => z) (fun h' u tk hk => fin hk) hs.2
    · exact False.elim h
  · exact False.elim h

/-! ### methods -/
/-- of a built-in type, by the abstract heap -/
def TyG (X : Cx) (T : String) (x : V) (H : Hp) : Prop := ∀ (pins : List (Addr × Obj)) (σ : L2.St) (s : Shared) (v : Value), Inv X pins σ H s → RelV x v → s.TypeIs v T ∧ ∀ a, v = .ref a → ∃ ob, s.heap.get? a = some ob ∧ ob.dict = none
theorem tyG_list {a : Addr} {xs : List V} {H : Hp} (h : SqL X.K H a xs) : TyG X "list" (.ref a) H := fun pins σ s v I r => by
  cases r
  obtain ⟨its, _, pl, _⟩ := I.list h
  refine ⟨pl.isList.typeIs, fun b e => ?_⟩
  cases e
  obtain ⟨o, n, e, c, hd, _⟩ := pl
  exact ⟨o, e, hd⟩
theorem tyG_dict {a : Addr} {es : Array DictEntry} {ep : Nat} {H : Hp} (h : H a = some (RawD a es ep)) : TyG X "dict" (.ref a) H := fun pins σ s v I r => by
  cases r
  obtain ⟨o, g1, g2, g3⟩ := rawD_at I.hok h
  refine ⟨⟨o, g1, g2.1⟩, fun b e => ?_⟩
  cases e
  exact ⟨o, g1, g2.2.1⟩
def plainE : Expr → Bool
  | .Starred .. => false
  | _ => true
theorem star_cons {e : Expr} {es : List Expr} {env : Env} (h : plainE e = true) : starEach (e :: es) env = (false, eval e env) :: starEach es env := by
  cases e <;> first | rfl | (simp [plainE] at h)
theorem star_plain {env : Env} : ∀ {es : List Expr}, es.all plainE = true → starEach es env = es.map fun e => (false, eval e env)
  | [], _ => rfl
  | e :: es, h => by
    simp only [List.all_cons, Bool.and_eq_true] at h
    rw [star_cons h.1, star_plain h.2]
    rfl
theorem star_none {env : Env} {pos : Pos} {es : List Expr} (h : es.all plainE = true) : (backTo pos (starEach es env)).any (·.1) = false := by
  rw [star_plain h]
  unfold backTo
  rw [List.map_map, List.any_map]
  simp
theorem star_few {env : Env} {pos : Pos} {es : List Expr} (h : es.all plainE = true) (hl : es.length < 30) :
    ((backTo pos (starEach es env)).all (fun x => !x.1) && (backToKw pos (keywordEach [] env)).all (fun x => x.1.isSome) && decide (es.length + ([] : List Keyword).length + (if ([] : List Keyword).isEmpty then 0 else 1) < 30)) = true := by
  rw [star_plain h]
  unfold backTo
  rw [List.map_map, List.all_map]
  simp [backToKw, keywordEach, hl]
/-- no call without arguments -/
def baseE : Expr → Bool
  | .Call _ [] [] _ => false
  | _ => true
theorem base_of {o : Expr} {name : Str} {env : Env} (h : baseE o = true) : attributeBase o name env (eval o env) = eval o env := by
  unfold attributeBase
  split
  · simp [baseE] at h
  · rfl
theorem evalArgs_free {M : Model} {A : Around} {f : Value} {Q : Args → Shared → Prop} {E : Value → Shared → Prop} {s : Shared} {env : Env} {pos : Pos} (h : wpAny M A (spliced (backTo pos (starEach [] env))) (fun vs s' => Q ⟨vs, []⟩ s') E s) : wpAny M A (evalArgs f true (backTo pos (starEach [] env)) []) Q E s := by
  unfold evalArgs
  show wpAny M A (spliced (backTo pos (starEach [] env)) >>= _) Q E s
  exact wpAny_bind (wpAny_mono h (fun vs s2 h2 => wpAny_bind (wpAny_pure (wpAny_holding (wpAny_bind (wpAny_pure (wpAny_bind (wpAny_pure (wpAny_pure h2)))))))) fun _ _ z => z)
theorem pe_meG {T id : String} {name : Str} {o : Expr} {es : List Expr} {to : TE} {t : TA} {apos cpos : Pos} {r : V → List V → Hp → VK → Prop} (pa : PlainAttrs T) (slot : Slot T name id) (hty : typeOf (.builtin id) = pure (.type "method_descriptor")) (hm : MtR X id r) (ho : PE X o to) (ha : PA X es t)
    (hbase : baseE o = true) (hp : es.all plainE = true) (hl : es.length < 30) (hline : (apos.endLine == cpos.line) = true) :
    PE X (.Call (.Attribute o name apos) es [] cpos) (fun σ H Q => to σ H fun x H1 => TyG X T x H1 ∧ t σ H1 fun xs H2 => r x xs H2 Q) := by
  refine ⟨fun pins s σ H Q I h => ?_⟩
  refine wpAny_Call_method_late (base_of hbase) (star_few hp hl) hline rfl (thn (ho.run pins s σ H _ I h) fun v s1 ⟨x, H1, I1, r1, ty, q1⟩ => ?_)
  obtain ⟨h1, h2⟩ := ty pins σ s1 v I1 r1
  refine ⟨T, id, pa, slot, hty, h1, h2, ?_⟩
  have hA := ha.run cpos pins s1 σ H1 _ I1 q1
  match es, hp, hA with
  | [], _, hA => exact Calls.callWith_builtin rfl (evalArgs_free (thn hA fun us s2 ⟨vs, H2, I2, r2, q2⟩ => hm pins s2 σ H2 x vs v us Q I2 r1 r2 q2))
  | e :: es, hp, hA =>
    simp only [List.all_cons, Bool.and_eq_true] at hp
    rw [star_cons hp.1] at hA ⊢
    refine Calls.callWith_builtin (by show (false || (backTo cpos (starEach es X.env)).any (·.1)) = false; rw [star_none hp.2]; rfl) (Calls.evalArgs_plain ?_)
    exact thn hA fun us s2 ⟨vs, H2, I2, r2, q2⟩ => hm pins s2 σ H2 x vs v us Q I2 r1 r2 q2
abbrev rMe (X : Cx) (ca : Ca) (W : XK) (m : Me) : V → List V → Hp → VK → Prop := fun vx vs H Q => ∃ μ st x ds, RS X.K X.w ca μ st H ∧ RV X.K μ H x vx ∧ RVs X.K μ H ds vs ∧ Po X.K X.w ca W (RV X.K) μ H (methD m x ds st) Q
theorem Po.put {μ : List Addr} {H : Hp} {st : Sto} {k : Nat} {d : D} {o : O} {v : V} {Q : VK} {a : Addr} {ho : HO} (h : Po X.K X.w ca W (RV X.K) μ H (.ok d (st.set k o)) Q) (rs : RS X.K X.w ca μ st H) (hn : μ[k]? = some a)
    (r : RV X.K μ H d v) (ro : Xt X.K μ H μ (upd H a ho) → RO X.K X.w ca μ (upd H a ho) o a) : Q v (upd H a ho) := by
  have x1 : Xt X.K μ H μ (upd H a ho) := rs.put_xt (List.mem_of_getElem? hn)
  exact h μ _ _ x1 (rs.put hn (ro x1)) (r.mono x1)
theorem met_append : MtR X "list.append" (rMe X ca W .append) := by
  intro pins s σ H vx vs v us Q I rx rvs ⟨μ, st, x, ds, rs, hx, hd, h⟩
  unfold methD at h
  cases hx with
  | ref hn =>
    rename_i n a
    obtain ⟨o, ho, ro⟩ := rs.obj hn
    simp only [ho] at h
    cases o with
    | lst xs =>
      match ds, hd, h with
      | [], _, h => exact False.elim h
      | _ :: _ :: _, _, h => exact False.elim h
      | [d], hd, h =>
        dsimp only at h
        split at h
        · rename_i hl
          rw [lim_eq] at hl
          obtain ⟨y, rfl, r1⟩ := hd.one
          obtain ⟨zs, e, r2⟩ := ro
          exact mt_append pins s σ H _ _ v us Q I rx rvs ⟨a, zs, y, rfl, rfl, e, by rw [← r2.length]; exact hl, h.put rs hn .non fun x1 => ⟨_, upd_same, (r2.mono x1).append (.cons (r1.mono x1) .nil)⟩⟩
        · exact False.elim h
    | _ => exact False.elim h
  | _ => exact False.elim h

theorem met_extend : MtR X "list.extend" (rMe X ca W .extend) := by
  intro pins s σ H vx vs v us Q I rx rvs ⟨μ, st, x, ds, rs, hx, hd, h⟩
  unfold methD at h
  cases hx with
  | ref hn =>
    rename_i n a
    obtain ⟨o, ho, ro⟩ := rs.obj hn
    simp only [ho] at h
    cases o with
    | lst xs =>
      match ds, hd, h with
      | [], _, h => exact False.elim h
      | [.ref j], hd, h =>
        obtain ⟨vy, rfl, r1⟩ := hd.one
        cases r1 with
        | ref hn2 =>
          obtain ⟨o2, ho2, ro2⟩ := rs.obj hn2
          simp only [ho2] at h
          cases o2 with
          | lst ys =>
            dsimp only at h
            split at h
            · rename_i hl
              rw [lim_eq] at hl
              obtain ⟨zs, e, r2⟩ := ro
              obtain ⟨zs2, e2, r3⟩ := ro2
              refine mt_extend pins s σ H _ _ v us Q I rx rvs ⟨a, _, zs, zs2, rfl, rfl, e, e2, by rw [← r2.length, ← r3.length]; exact hl, h.put rs hn .non fun x1 => ⟨_, upd_same, (r2.mono x1).append (r3.mono x1)⟩⟩
            · exact False.elim h
          | _ => exact False.elim h
      | [.non], hd, h => exact False.elim h
      | [.bl _], hd, h => exact False.elim h
      | [.int _], hd, h => exact False.elim h
      | [.str _], hd, h => exact False.elim h
      | [.tup _], hd, h => exact False.elim h
      | [.frz _], hd, h => exact False.elim h
      | x :: _ :: _, _, h => cases x <;> exact False.elim h
    | _ => exact False.elim h
  | _ => exact False.elim h
theorem RVs.last {K : PySem.W.Frag} {μ : List Addr} {H : Hp} : ∀ {ds : List D} {vs : List V} {d : D}, RVs K μ H ds vs → ds.getLast? = some d → ∃ y, vs[vs.length - 1]? = some y ∧ RV K μ H d y
  | _, _, _, .nil, e => by cases e
  | _, _, _, .cons h .nil, e => by cases e; exact ⟨_, rfl, h⟩
  | _, _, d, .cons h (.cons h2 t), e => by
    obtain ⟨y, a, b⟩ := RVs.last (d := d) (.cons h2 t) (by simpa [List.getLast?_cons_cons] using e)
    exact ⟨y, by simpa using a, b⟩
theorem met_pop : MtR X "list.pop" (rMe X ca W .pop) := by
  intro pins s σ H vx vs v us Q I rx rvs ⟨μ, st, x, ds, rs, hx, hd, h⟩
  unfold methD at h
  cases hx with
  | ref hn =>
    rename_i n a
    obtain ⟨o, ho, ro⟩ := rs.obj hn
    simp only [ho] at h
    cases o with
    | lst xs =>
      match ds, hd, h with
      | _ :: _, _, h => exact False.elim h
      | [], hd, h =>
        cases hd
        dsimp only at h
        split at h
        · rename_i d e0
          obtain ⟨zs, e, r2⟩ := ro
          obtain ⟨y, e3, r3⟩ := r2.last e0
          refine mt_pop pins s σ H _ _ v us Q I rx rvs ⟨a, zs, y, rfl, rfl, e, e3, h.put rs hn r3 fun x1 => ⟨_, upd_same, (r2.mono x1).dropLast⟩⟩
        · exact False.elim h
    | _ => exact False.elim h
  | _ => exact False.elim h

/-! ### d.get -/
section
variable {prog : Program} {w : World} {kvs : List (D × D)} {k : D} {d : Addr} {key : Value}
theorem meets_get1 (hs : (d == sysModules) = false) (hk : dictOk kvs k = true) :
    MeetsIn prog w (Builtin.«dict.get» ⟨[.ref d, key], []⟩) (fun A R s => ∃ o es ep as, A.units + 17 < cLine ∧ s.heap.get? d = some o ∧ o.data = .dict es ep ∧ Paired (EntH w s.heap) kvs es.toList ∧ (kvs.map (·.1)).Nodup ∧ Reads s.heap key (toP k) as ∧
      (didx kvs k = none → ∀ tk, R (.ok (.ret .none)) { s with toks := tk }) ∧ (∀ j e, didx kvs k = some j → es[j]? = some e → ∀ tk, R (.ok (.ret e.val)) { s with toks := tk })) :=
  .of_wp fun A R s ⟨o, es, ep, as, hu, ho, hdat, hp, hn, r, h0, h1⟩ => by
    show wpAny _ _ (dictGet d key >>= _) _ _ s
    refine wpAny_bind (get_raw (by show A.units + 1 + 16 < cLine; omega) ho hdat hp hn hk r (fun e tk => ?_) fun j en e he tk => ?_)
    · show wpAny _ _ (Builtin.Dict.missed d key >>= _) _ _ _
      exact wpAny_bind (wpAny_missed_other hs (wpAny_pure ⟨.none, rfl, h0 e tk⟩))
    · exact wpAny_pure ⟨en.val, rfl, h1 j en e he tk⟩
theorem meets_get2 (hs : (d == sysModules) = false) (hk : dictOk kvs k = true) (df : Value) :
    MeetsIn prog w (Builtin.«dict.get» ⟨[.ref d, key, df], []⟩) (fun A R s => ∃ o es ep as, A.units + 17 < cLine ∧ s.heap.get? d = some o ∧ o.data = .dict es ep ∧ Paired (EntH w s.heap) kvs es.toList ∧ (kvs.map (·.1)).Nodup ∧ Reads s.heap key (toP k) as ∧
      (didx kvs k = none → ∀ tk, R (.ok (.ret df)) { s with toks := tk }) ∧ (∀ j e, didx kvs k = some j → es[j]? = some e → ∀ tk, R (.ok (.ret e.val)) { s with toks := tk })) :=
  .of_wp fun A R s ⟨o, es, ep, as, hu, ho, hdat, hp, hn, r, h0, h1⟩ => by
    show wpAny _ _ (dictGet d key >>= _) _ _ s
    refine wpAny_bind (get_raw (by show A.units + 1 + 16 < cLine; omega) ho hdat hp hn hk r (fun e tk => ?_) fun j en e he tk => ?_)
    · show wpAny _ _ (Builtin.Dict.missed d key >>= _) _ _ _
      exact wpAny_bind (wpAny_missed_other hs (wpAny_pure ⟨df, rfl, h0 e tk⟩))
    · exact wpAny_pure ⟨en.val, rfl, h1 j en e he tk⟩
end
theorem met_get (hu : X.A.units + 65 < cLine) : MtR X "dict.get" (rMe X ca W .get) := by
  intro pins s σ H vx vs v us Q I rx rvs ⟨μ, st, x, ds, rs, hx, hd, h⟩
  unfold methD at h
  cases hx with
  | ref hn =>
    rename_i n a
    obtain ⟨o, ho, ro⟩ := rs.obj hn
    simp only [ho] at h
    cases o with
    | dic kvs ep =>
      match ds, hd, h with
      | [], _, h => exact False.elim h
      | _ :: _ :: _, _, h => exact False.elim h
      | [d], hd, h =>
        dsimp only at h
        split at h
        · rename_i hk
          obtain ⟨vk, rfl, r1⟩ := hd.one
          obtain ⟨uk, rfl, ru⟩ := vals1 rvs
          cases rx
          obtain ⟨es, e1, hsys, hz, hnd, hp⟩ := ro
          obtain ⟨o, g1, g2, g3⟩ := rawD_at I.hok e1
          obtain ⟨as, rd⟩ := key_reads I (dictOk_key hk) r1 ru
          refine call_meetsIn PySem.F.slot_dict_get (T := "dict") ⟨o, g1, g2.1⟩ PySem.F.entry_dict_get (PySem.F.args_dict_get_2 _ _) (meets_get1 hsys hk)
            ⟨o, es, ep, as, by omega, g1, g3, entH_of I hp, hnd, rd, fun ei tk => ?_, fun j en ei he tk => ?_⟩
          · rw [(dget_none ei).1] at h
            exact ⟨.non, H, I.tok tk, rfl, h.here rs .non⟩
          · obtain ⟨d', h1, h2, _⟩ := dget_some ei
            obtain ⟨en', w', l1, l2, l3⟩ := ent_val hp h1
            have l1' : es[j]? = some en' := by rw [← Array.getElem?_toList]; exact l1
            rw [he] at l1'
            cases l1'
            rw [h2] at h
            exact ⟨w', H, I.tok tk, l2, h.here rs l3⟩
        · exact False.elim h
    | _ => exact False.elim h
  | _ => exact False.elim h
theorem met_get2 (hu : X.A.units + 65 < cLine) : MtR X "dict.get" (rMe X ca W .get2) := by
  intro pins s σ H vx vs v us Q I rx rvs ⟨μ, st, x, ds, rs, hx, hd, h⟩
  unfold methD at h
  cases hx with
  | ref hn =>
    rename_i n a
    obtain ⟨o, ho, ro⟩ := rs.obj hn
    simp only [ho] at h
    cases o with
    | dic kvs ep =>
      match ds, hd, h with
      | [], _, h => exact False.elim h
      | [_], _, h => exact False.elim h
      | _ :: _ :: _ :: _, _, h => exact False.elim h
      | [d, df], hd, h =>
        dsimp only at h
        split at h
        · rename_i hk
          obtain ⟨vk, vf, rfl, r1, rf⟩ := hd.two
          obtain ⟨uk, uf, rfl, ru, rfu⟩ := vals2 rvs
          cases rx
          obtain ⟨es, e1, hsys, hz, hnd, hp⟩ := ro
          obtain ⟨o, g1, g2, g3⟩ := rawD_at I.hok e1
          obtain ⟨as, rd⟩ := key_reads I (dictOk_key hk) r1 ru
          refine call_meetsIn PySem.F.slot_dict_get (T := "dict") ⟨o, g1, g2.1⟩ PySem.F.entry_dict_get (PySem.F.args_dict_get_3 _ _ _) (meets_get2 hsys hk uf)
            ⟨o, es, ep, as, by omega, g1, g3, entH_of I hp, hnd, rd, fun ei tk => ?_, fun j en ei he tk => ?_⟩
          · rw [(dget_none ei).1] at h
            exact ⟨vf, H, I.tok tk, rfu, h.here rs rf⟩
          · obtain ⟨d', h1, h2, _⟩ := dget_some ei
            obtain ⟨en', w', l1, l2, l3⟩ := ent_val hp h1
            have l1' : es[j]? = some en' := by rw [← Array.getElem?_toList]; exact l1
            rw [he] at l1'
            cases l1'
            rw [h2] at h
            exact ⟨w', H, I.tok tk, l2, h.here rs l3⟩
        · exact False.elim h
    | _ => exact False.elim h
  | _ => exact False.elim h
end
end Mi

set_option Elab.async false
set_option linter.all false
set_option maxRecDepth 100000
set_option maxHeartbeats 1000000
/-! Mi, part H: expressions, from the rules. -/
namespace Mi
open PySem PySem.Spec PyProof.Rows L2

/-! ### what is adopted into the store -/
section
variable {K : PySem.W.Frag} {w : World} {ca : Ca} {μ μ' : List Addr} {H H' : Hp} {st : Sto}
structure Wd (K : PySem.W.Frag) (μ : List Addr) (H : Hp) (μ' : List Addr) (H' : Hp) : Prop where
  get : ∀ (n : Nat) (a : Addr), μ[n]? = some a → μ'[n]? = some a
  tup : ∀ a vs, SqT K H a vs → SqT K H' a vs
  frz : ∀ a vs, SqF K H a vs → SqF K H' a vs
mutual
theorem RV.wid (x : Wd K μ H μ' H') : ∀ {d : D} {v : V}, RV K μ H d v → RV K μ' H' d v
  | _, _, .non => .non
  | _, _, .bl b => .bl b
  | _, _, .int i => .int i
  | _, _, .str s => .str s
  | _, _, .tup h hs => .tup (x.tup _ _ h) (RVs.wid x hs)
  | _, _, .frz h hs => .frz (x.frz _ _ h) (RVs.wid x hs)
  | _, _, .ref h => .ref (x.get _ _ h)
theorem RVs.wid (x : Wd K μ H μ' H') : ∀ {ds : List D} {vs : List V}, RVs K μ H ds vs → RVs K μ' H' ds vs
  | _, _, .nil => .nil
  | _, _, .cons h hs => .cons (RV.wid x h) (RVs.wid x hs)
end
theorem EntR.wid (x : Wd K μ H μ' H') {p : D × D} {e : DictEntry} (h : EntR K w μ H p e) : EntR K w μ' H' p e :=
  ⟨h.hash, h.ok, let ⟨k, a, b⟩ := h.key; ⟨k, a, b.wid x⟩, let ⟨k, a, b⟩ := h.val; ⟨k, a, b.wid x⟩⟩
theorem Wd.snoc (d : Addr) : Wd K μ H (μ ++ [d]) H := ⟨fun n a e => by rw [List.getElem?_append_left (List.getElem?_eq_some_iff.mp e).1]; exact e, fun _ _ z => z, fun _ _ z => z⟩
theorem RS.adopt (rs : RS K w ca μ st H) {d : Addr} {o : O} (hd : d ∉ μ) (hx : ∀ fs, H d ≠ some (.xd fs)) (r : RO K w ca (μ ++ [d]) H o d) : RS K w ca (μ ++ [d]) (st ++ [o]) H := by
  have g : Wd K μ H (μ ++ [d]) H := Wd.snoc d
  refine ⟨by simp [rs.len], ?_, fun n u a e1 e2 => ?_, rs.tab⟩
  · rw [List.nodup_append]
    exact ⟨rs.nd, by simp, fun a ha b hb z => by rw [List.mem_singleton.mp hb] at z; exact hd (z ▸ ha)⟩
  · by_cases hn : n < μ.length
    · rw [List.getElem?_append_left hn] at e2
      rw [List.getElem?_append_left (by rw [← rs.len]; exact hn)] at e1
      have r0 := rs.at_ n u a e1 e2
      cases u with
      | lst xs => obtain ⟨vs, e, q⟩ := r0; exact ⟨vs, e, q.wid g⟩
      | dic kvs ep => obtain ⟨es, e, a1, a2, a3, q⟩ := r0; exact ⟨es, e, a1, a2, a3, Paired.map2 q fun _ _ z => z.wid g⟩
      | exc c v =>
        obtain ⟨dx, y, e, a1, a2, q⟩ := r0
        refine ⟨dx, y, e, a1, fun hm => ?_, q.wid g⟩
        rcases List.mem_append.mp hm with hm | hm
        · exact a2 hm
        · rw [List.mem_singleton.mp hm] at a1; exact hx _ a1
    · have hn' : μ.length = n := by
        have := (List.getElem?_eq_some_iff.mp e2).1
        simp at this
        omega
      subst hn'
      rw [List.getElem?_append_right (Nat.le_refl _)] at e2
      rw [rs.len, List.getElem?_append_right (Nat.le_refl _)] at e1
      simp at e1 e2
      subst e1 e2
      exact r
/-- from a point where it wasn't there -/
theorem Xt.adopt {H0 : Hp} {μ0 : List Addr} {d : Addr} (x : Xt K μ0 H0 μ H) (hd : H0 d = none) : Xt K μ0 H0 (μ ++ [d]) H := by
  obtain ⟨⟨t, rfl, ht⟩, k, tp, fz⟩ := x
  exact ⟨⟨t ++ [d], by simp, fun a ha n o ho => by
    rcases List.mem_append.mp ha with ha | ha
    · exact ht a ha n o ho
    · rw [List.mem_singleton.mp ha, hd] at ho; cases ho⟩, k, tp, fz⟩
end

/-! ### tests -/
section
variable (Φ : Nat → List D → M D)
def denB (e : E) (env : Sl) : M Bool := M.bind (den Φ e env) fun x => match x with
  | .bl b => M.pure b
  | _ => M.no
theorem den_and (a b : E) (env : Sl) : den Φ (.and a b) env = M.bind (denB Φ a env) fun c => if c then M.bind (denB Φ b env) fun c => M.pure (.bl c) else M.pure (.bl false) := by
  funext st
  simp only [den, denB, M.bind]
  cases den Φ a env st with
  | no => rfl
  | exc c v s => rfl
  | ok x s =>
    cases x <;> first | rfl | skip
    rename_i c
    cases c
    · rfl
    · simp only [Out.bind]
      show (den Φ b env s).bind _ = ((den Φ b env s).bind _).bind _
      cases den Φ b env s with
      | no => rfl
      | exc c v s => rfl
      | ok y s => cases y <;> rfl
theorem den_or (a b : E) (env : Sl) : den Φ (.or a b) env = M.bind (denB Φ a env) fun c => if c then M.pure (.bl true) else M.bind (denB Φ b env) fun c => M.pure (.bl c) := by
  funext st
  simp only [den, denB, M.bind]
  cases den Φ a env st with
  | no => rfl
  | exc c v s => rfl
  | ok x s =>
    cases x <;> first | rfl | skip
    rename_i c
    cases c
    · simp only [Out.bind]
      show (den Φ b env s).bind _ = ((den Φ b env s).bind _).bind _
      cases den Φ b env s with
      | no => rfl
      | exc c v s => rfl
      | ok y s => cases y <;> rfl
    · rfl
theorem den_not (a : E) (env : Sl) : den Φ (.not a) env = M.bind (denB Φ a env) fun c => M.pure (.bl (!c)) := by
  funext st
  simp only [den, denB, M.bind]
  cases den Φ a env st with
  | no => rfl
  | exc c v s => rfl
  | ok x s => cases x <;> rfl
theorem den_ite (t a b : E) (env : Sl) : den Φ (.ite t a b) env = M.bind (denB Φ t env) fun c => if c then den Φ a env else den Φ b env := by
  funext st
  simp only [den, denB, M.bind]
  cases den Φ t env st with
  | no => rfl
  | exc c v s => rfl
  | ok x s =>
    cases x <;> first | rfl | skip
    rename_i c
    cases c <;> rfl
theorem denT_cons (e : E) (es : List E) (env : Sl) : denT Φ (e :: es) env = M.bind (denB Φ e env) fun c => if c then denT Φ es env else M.pure false := by
  funext st
  simp only [denT, denB, M.bind]
  cases den Φ e env st with
  | no => rfl
  | exc c v s => rfl
  | ok x s =>
    cases x <;> first | rfl | skip
    rename_i c
    cases c <;> rfl
theorem M.bind_assoc {α β γ : Type} (m : M α) (f : α → M β) (g : β → M γ) : M.bind (M.bind m f) g = M.bind m fun a => M.bind (f a) g := by
  funext st
  simp only [M.bind]
  cases m st <;> rfl
theorem M.pure_bind {α β : Type} (a : α) (f : α → M β) : M.bind (M.pure a) f = f a := rfl
theorem M.bind_ite {α β : Type} (c : Bool) (m n : M α) (f : α → M β) : M.bind (if c then m else n) f = if c then M.bind m f else M.bind n f := by cases c <;> rfl
theorem denB_and (a b : E) (env : Sl) : denB Φ (.and a b) env = M.bind (denB Φ a env) fun c => if c then denB Φ b env else M.pure false := by
  unfold denB
  rw [den_and, M.bind_assoc]
  unfold denB
  congr 1
  funext c
  rw [M.bind_ite, M.bind_assoc]
  cases c
  · rfl
  · funext st
    simp only [M.bind, if_pos]
    cases den Φ b env st with
    | no => rfl
    | exc c v s => rfl
    | ok y s => cases y <;> rfl
theorem denB_or (a b : E) (env : Sl) : denB Φ (.or a b) env = M.bind (denB Φ a env) fun c => if c then M.pure true else denB Φ b env := by
  unfold denB
  rw [den_or, M.bind_assoc]
  unfold denB
  congr 1
  funext c
  rw [M.bind_ite, M.bind_assoc]
  cases c
  · funext st
    simp only [M.bind, Bool.false_eq_true, if_false]
    cases den Φ b env st with
    | no => rfl
    | exc c v s => rfl
    | ok y s => cases y <;> rfl
  · rfl
theorem denB_not (a : E) (env : Sl) : denB Φ (.not a) env = M.bind (denB Φ a env) fun c => M.pure (!c) := by
  rw [denB, den_not, M.bind_assoc]; rfl
theorem denB_ite (t a b : E) (env : Sl) : denB Φ (.ite t a b) env = M.bind (denB Φ t env) fun c => if c then denB Φ a env else denB Φ b env := by
  rw [denB, den_ite, M.bind_assoc]
  congr 1
  funext c
  rw [M.bind_ite]; rfl
end

/-! ### readings -/
section
variable (X : Cx) (ca : Ca) (W : XK) (Φ : Nat → List D → M D)
abbrev TEx (e : E) : TE := rd X.K X.w ca W (RV X.K) (den Φ e)
abbrev TBx (e : E) : TT := rd X.K X.w ca W (fun _ _ b c => b = c) (denB Φ e)
abbrev TAx (es : List E) : TA := rd X.K X.w ca W (RVs X.K) (dens Φ es)
abbrev TTx (ts : List E) : TT := rd X.K X.w ca W (fun _ _ b c => b = c) (denT Φ ts)
abbrev TOx (e : Option E) : TO := rd X.K X.w ca W (fun _ _ b c => b = c) (denO Φ e)
end

section
variable {X : Cx} {ca : Ca} {W : XK} {Φ : Nat → List D → M D} {a b c e : Expr} {es : List Expr} {A B C : E} {As : List E} {pos p2 : Pos}
theorem rd_bind {α β γ δ : Type} {R : List Addr → Hp → α → β → Prop} {R' : List Addr → Hp → γ → δ → Prop} {m : Sl → M α} {f : Sl → α → M γ} {σ : L2.St} {H : Hp} {Q : δ → Hp → Prop} {Q1 : β → Hp → Prop}
    (h : rd X.K X.w ca W R' (fun env => M.bind (m env) (f env)) σ H Q)
    (k : ∀ μ1 env st1 x H1 v, RS X.K X.w ca μ1 st1 H1 → RE X.K μ1 H1 env σ → R μ1 H1 x v → Po X.K X.w ca W R' μ1 H1 (f env x st1) Q → Q1 v H1) : rd X.K X.w ca W R m σ H Q1 := by
  obtain ⟨μ, env, st, rs, re, h⟩ := h
  exact ⟨μ, env, st, rs, re, Po.bi h fun x st1 μ1 H1 v _ x1 rs1 r1 h1 => k μ1 env st1 x H1 v rs1 (re.mono x1) r1 h1⟩
theorem xe_var {i : Nat} {x : Str} (hN : X.N[i]? = some x) (hv : Vis X.env.scope x) (hd : (x == ("__debug__" : Str)) = false) (hcd : (x == ("__classdict__" : Str)) = false) : PE X (.Name x pos) (TEx X ca W Φ (.var i)) :=
  (pe_var hN hv hd hcd).imp fun σ H Q ⟨μ, env, st, rs, re, h⟩ => by
    unfold den at h
    cases e : env[i]? with
    | none => rw [e] at h; exact False.elim h
    | some o =>
      cases o with
      | none => rw [e] at h; exact False.elim h
      | some d =>
        rw [e] at h
        obtain ⟨v, h1, h2⟩ := re.at_ i d e
        exact ⟨v, h1, h.here rs h2⟩
theorem xe_cst {d : D} {v : V} (h : PE X e (tC v)) (r : ∀ μ H, RV X.K μ H d v) : PE X e (TEx X ca W Φ (.cst d)) :=
  h.imp fun σ H Q ⟨μ, env, st, rs, re, h⟩ => h.here rs (r μ H)
theorem xe_bin {o : Bop} {op : Operator} (ho : OpR X (binaryOp op) (rBin X ca W o)) (ha : PE X a (TEx X ca W Φ A)) (hb : PE X b (TEx X ca W Φ B)) : PE X (.BinOp a op b pos) (TEx X ca W Φ (.bin o A B)) :=
  (pe_op ho ha hb).imp fun σ H Q h => by
    refine rd_bind (m := den Φ A) h fun μ1 env st1 x H1 vx rs1 re1 r1 h1 => ?_
    exact ⟨μ1, env, st1, rs1, re1, Po.bi h1 fun y st2 μ2 H2 vy _ x2 rs2 r2 h2 => ⟨μ2, st2, x, y, rs2, r1.mono x2, r2, h2⟩⟩
theorem xe_neg (ha : PE X a (TEx X ca W Φ A)) : PE X (.UnaryOp .USub a pos) (TEx X ca W Φ (.neg A)) :=
  (pe_un un_neg ha).imp fun σ H Q h => by
    refine rd_bind (m := den Φ A) h fun μ1 env st1 x H1 vx rs1 re1 r1 h1 => ?_
    cases r1 with
    | int i => exact ⟨i, rfl, h1.here rs1 (.int _)⟩
    | _ => exact False.elim h1
theorem xe_cmp {o : Cop} {op : CmpOp} (ho : OpR X (compareOp op) (rCmp X ca W o)) (ha : PE X a (TEx X ca W Φ A)) (hb : PE X b (TEx X ca W Φ B)) (hm : behindInMarks op b = false) : PE X (.Compare a [op] [b] pos) (TEx X ca W Φ (.cmp o A B)) :=
  (pe_cmpR ho ha hb hm).imp fun σ H Q h => by
    refine rd_bind (m := den Φ A) h fun μ1 env st1 x H1 vx rs1 re1 r1 h1 => ?_
    exact ⟨μ1, env, st1, rs1, re1, Po.bi h1 fun y st2 μ2 H2 vy _ x2 rs2 r2 h2 => ⟨μ2, st2, x, y, rs2, r1.mono x2, r2, h2⟩⟩
theorem cmp_bl {o : Cop} {x y d : D} {st st' : Sto} (h : cmpD o x y st = .ok d st') : (∃ c, d = .bl c) ∧ st' = st := by
  unfold cmpD at h
  split at h
  · cases h; exact ⟨⟨_, rfl⟩, rfl⟩
  · cases h
/-- a reading of a value, as a test -/
theorem tb_of {t : TE} (h : ∀ σ H Q, TEx X ca W Φ A σ H Q → t σ H Q) : ∀ σ H Q, TBx X ca W Φ A σ H Q → tTest t σ H Q := fun σ H Q q => by
  refine h σ H _ ?_
  refine rd_bind (m := den Φ A) q fun μ1 env st1 x H1 vx rs1 re1 r1 h1 => ?_
  cases r1 with
  | bl c => exact ⟨c, rfl, h1.here rs1 rfl⟩
  | _ => exact False.elim h1
theorem xt_cmp {o : Cop} {op : CmpOp} (ho : OpR X (compareOp op) (rCmp X ca W o)) (ha : PE X a (TEx X ca W Φ A)) (hb : PE X b (TEx X ca W Φ B)) (hm : behindInMarks op b = false) : PT X (.Compare a [op] [b] pos) (TBx X ca W Φ (.cmp o A B)) :=
  (pt_cmpR ho ha hb hm).imp (tb_of fun σ H Q h => by
    refine rd_bind (m := den Φ A) h fun μ1 env st1 x H1 vx rs1 re1 r1 h1 => ?_
    exact ⟨μ1, env, st1, rs1, re1, Po.bi h1 fun y st2 μ2 H2 vy _ x2 rs2 r2 h2 => ⟨μ2, st2, x, y, rs2, r1.mono x2, r2, h2⟩⟩)
theorem chain_rd {o o' : Cop} {σ : L2.St} {H : Hp} {Q : VK} (h : TEx X ca W Φ (.chain o o' A B C) σ H Q) :
    tChain (rCmp X ca W o) (rCmp X ca W o') (TEx X ca W Φ A) (TEx X ca W Φ B) (TEx X ca W Φ C) σ H Q := by
  refine rd_bind (m := den Φ A) h fun μ1 env st1 x H1 vx rs1 re1 r1 h1 => ?_
  refine ⟨μ1, env, st1, rs1, re1, Po.bi h1 fun y st2 μ2 H2 vy _ x2 rs2 r2 h2 => ⟨μ2, st2, x, y, rs2, r1.mono x2, r2, Po.bi h2 fun k st3 μ3 H3 vk e3 x3 rs3 r3 h3 => ?_⟩⟩
  obtain ⟨⟨c, rfl⟩, rfl⟩ := cmp_bl e3
  cases r3
  refine ⟨c, rfl, ?_⟩
  cases c with
  | false => exact h3.here rs3 (.bl _)
  | true => exact ⟨μ3, env, st3, rs3, (re1.mono x2).mono x3, Po.bi h3 fun z st4 μ4 H4 vz _ x4 rs4 r4 h4 => ⟨μ4, st4, y, z, rs4, (r2.mono x3).mono x4, r4, h4⟩⟩
theorem xe_chain {o o' : Cop} {op op' : CmpOp} (ho : OpR X (compareOp op) (rCmp X ca W o)) (ho' : OpR X (compareOp op') (rCmp X ca W o')) (ha : PE X a (TEx X ca W Φ A)) (hb : PE X b (TEx X ca W Φ B)) (hc : PE X c (TEx X ca W Φ C))
    (hm : lastMarks [op, op'] [b, c] = false) : PE X (.Compare a [op, op'] [b, c] pos) (TEx X ca W Φ (.chain o o' A B C)) := (pe_chain ho ho' ha hb hc hm).imp fun σ H Q h => chain_rd h
theorem xt_chain {o o' : Cop} {op op' : CmpOp} (ho : OpR X (compareOp op) (rCmp X ca W o)) (ho' : OpR X (compareOp op') (rCmp X ca W o')) (ha : PE X a (TEx X ca W Φ A)) (hb : PE X b (TEx X ca W Φ B)) (hc : PE X c (TEx X ca W Φ C))
    (hm : lastMarks [op, op'] [b, c] = false) : PT X (.Compare a [op, op'] [b, c] pos) (TBx X ca W Φ (.chain o o' A B C)) := (pt_chain ho ho' ha hb hc hm).imp (tb_of fun σ H Q h => chain_rd h)
/-- a value as a test -/
theorem xt_val (h : PE X e (TEx X ca W Φ A)) (he : ∀ whole, isTrue e X.env whole = (do let v ← whole; standAt e.pos; holding [v] (truthy v))) : PT X e (TBx X ca W Φ A) := by
  exact (pt_val h he).imp fun σ H Q q => tb_of (t := TEx X ca W Φ A) (fun _ _ _ z => z) σ H Q q

/-! ### and, or, not, if -/
theorem xe_and {rest : List Expr} (ha : PE X a (TEx X ca W Φ A)) (hb : PE X (.BoolOp .And (b :: rest) pos) (TEx X ca W Φ B)) : PE X (.BoolOp .And (a :: b :: rest) pos) (TEx X ca W Φ (.and A B)) :=
  (pe_and ha hb).imp fun σ H Q h => by
    have h' : rd X.K X.w ca W (RV X.K) (fun env => M.bind (den Φ A env) fun x => match x with
      | .bl true => M.bind (den Φ B env) fun y => match y with
        | .bl c => M.pure (.bl c)
        | _ => M.no
      | .bl false => M.pure (.bl false)
      | _ => M.no) σ H Q := h
    refine rd_bind (m := den Φ A) h' fun μ1 env st1 x H1 vx rs1 re1 r1 h1 => ?_
    cases r1 with
    | bl c =>
      refine ⟨c, rfl, ?_⟩
      cases c with
      | false => exact h1.here rs1 (.bl _)
      | true => exact ⟨μ1, env, st1, rs1, re1, Po.bi h1 fun y st2 μ2 H2 vy _ x2 rs2 r2 h2 => by
          cases r2 with
          | bl c => exact h2.here rs2 (.bl _)
          | _ => exact False.elim h2⟩
    | _ => exact False.elim h1
theorem xe_or {rest : List Expr} (ha : PE X a (TEx X ca W Φ A)) (hb : PE X (.BoolOp .Or (b :: rest) pos) (TEx X ca W Φ B)) : PE X (.BoolOp .Or (a :: b :: rest) pos) (TEx X ca W Φ (.or A B)) :=
  (pe_or ha hb).imp fun σ H Q h => by
    have h' : rd X.K X.w ca W (RV X.K) (fun env => M.bind (den Φ A env) fun x => match x with
      | .bl false => M.bind (den Φ B env) fun y => match y with
        | .bl c => M.pure (.bl c)
        | _ => M.no
      | .bl true => M.pure (.bl true)
      | _ => M.no) σ H Q := h
    refine rd_bind (m := den Φ A) h' fun μ1 env st1 x H1 vx rs1 re1 r1 h1 => ?_
    cases r1 with
    | bl c =>
      refine ⟨c, rfl, ?_⟩
      cases c with
      | true => exact h1.here rs1 (.bl _)
      | false => exact ⟨μ1, env, st1, rs1, re1, Po.bi h1 fun y st2 μ2 H2 vy _ x2 rs2 r2 h2 => by
          cases r2 with
          | bl c => exact h2.here rs2 (.bl _)
          | _ => exact False.elim h2⟩
    | _ => exact False.elim h1
theorem xe_not (ha : PE X a (TEx X ca W Φ A)) : PE X (.UnaryOp .Not a pos) (TEx X ca W Φ (.not A)) :=
  (pe_not ha).imp fun σ H Q h => by
    refine rd_bind (m := den Φ A) h fun μ1 env st1 x H1 vx rs1 re1 r1 h1 => ?_
    cases r1 with
    | bl c => exact ⟨c, rfl, h1.here rs1 (.bl _)⟩
    | _ => exact False.elim h1
theorem _root_.L2.PW.imp {t t' : TT} (h : PW X e t) (k : ∀ σ H Q, t' σ H Q → t σ H Q) : PW X e t' := ⟨fun wh pins s σ H Q I q => h.run wh pins s σ H Q I (k σ H Q q)⟩
theorem xw_and {rest : List Expr} (ha : PT X a (TBx X ca W Φ A)) (hb : PW X (.BoolOp .And (b :: rest) pos) (TBx X ca W Φ B)) : PW X (.BoolOp .And (a :: b :: rest) pos) (TBx X ca W Φ (.and A B)) :=
  L2.PW.imp (pw_and ha hb) fun σ H Q h => by
    have h' : rd X.K X.w ca W (fun _ _ b c => b = c) (fun env => M.bind (denB Φ A env) fun c => if c then denB Φ B env else M.pure false) σ H Q := by
      have e : (denB Φ (.and A B)) = fun env => M.bind (denB Φ A env) fun c => if c then denB Φ B env else M.pure false := funext fun env => denB_and Φ A B env
      rw [← e]; exact h
    refine rd_bind (m := denB Φ A) h' fun μ1 env st1 x H1 vx rs1 re1 r1 h1 => ?_
    subst r1
    cases x with
    | true => exact ⟨μ1, env, st1, rs1, re1, h1⟩
    | false => exact h1.here rs1 rfl
theorem xw_or {rest : List Expr} (ha : PT X a (TBx X ca W Φ A)) (hb : PW X (.BoolOp .Or (b :: rest) pos) (TBx X ca W Φ B)) : PW X (.BoolOp .Or (a :: b :: rest) pos) (TBx X ca W Φ (.or A B)) :=
  L2.PW.imp (pw_or ha hb) fun σ H Q h => by
    have h' : rd X.K X.w ca W (fun _ _ b c => b = c) (fun env => M.bind (denB Φ A env) fun c => if c then M.pure true else denB Φ B env) σ H Q := by
      have e : (denB Φ (.or A B)) = fun env => M.bind (denB Φ A env) fun c => if c then M.pure true else denB Φ B env := funext fun env => denB_or Φ A B env
      rw [← e]; exact h
    refine rd_bind (m := denB Φ A) h' fun μ1 env st1 x H1 vx rs1 re1 r1 h1 => ?_
    subst r1
    cases x with
    | false => exact ⟨μ1, env, st1, rs1, re1, h1⟩
    | true => exact h1.here rs1 rfl
theorem xt_not (ha : PT X a (TBx X ca W Φ A)) : PT X (.UnaryOp .Not a pos) (TBx X ca W Φ (.not A)) :=
  (pt_not ha).imp fun σ H Q h => by
    have h' : rd X.K X.w ca W (fun _ _ b c => b = c) (fun env => M.bind (denB Φ A env) fun c => M.pure (!c)) σ H Q := by
      have e : (denB Φ (.not A)) = fun env => M.bind (denB Φ A env) fun c => M.pure (!c) := funext fun env => denB_not Φ A env
      rw [← e]; exact h
    refine rd_bind (m := denB Φ A) h' fun μ1 env st1 x H1 vx rs1 re1 r1 h1 => ?_
    subst r1
    exact h1.here rs1 rfl
theorem xe_ite (hc : PT X c (TBx X ca W Φ C)) (ha : PE X a (TEx X ca W Φ A)) (hb : PE X b (TEx X ca W Φ B)) : PE X (.IfExp c a b pos) (TEx X ca W Φ (.ite C A B)) :=
  (pe_ifExp hc ha hb).imp fun σ H Q h => by
    have h' : rd X.K X.w ca W (RV X.K) (fun env => M.bind (denB Φ C env) fun c => if c then den Φ A env else den Φ B env) σ H Q := by
      have e : (den Φ (.ite C A B)) = fun env => M.bind (denB Φ C env) fun c => if c then den Φ A env else den Φ B env := funext fun env => den_ite Φ C A B env
      rw [← e]; exact h
    refine rd_bind (m := denB Φ C) h' fun μ1 env st1 x H1 vx rs1 re1 r1 h1 => ?_
    subst r1
    cases x with
    | true => exact ⟨μ1, env, st1, rs1, re1, h1⟩
    | false => exact ⟨μ1, env, st1, rs1, re1, h1⟩
theorem xt_ite (hc : PT X c (TBx X ca W Φ C)) (ha : PT X a (TBx X ca W Φ A)) (hb : PT X b (TBx X ca W Φ B)) : PT X (.IfExp c a b pos) (TBx X ca W Φ (.ite C A B)) := by
  refine ⟨fun pins s σ H Q I h => ?_⟩
  have h' : rd X.K X.w ca W (fun _ _ b c => b = c) (fun env => M.bind (denB Φ C env) fun c => if c then denB Φ A env else denB Φ B env) σ H Q := by
    have e : (denB Φ (.ite C A B)) = fun env => M.bind (denB Φ C env) fun c => if c then denB Φ A env else denB Φ B env := funext fun env => denB_ite Φ C A B env
    rw [← e]; exact h
  have e : isTrue (.IfExp c a b pos) X.env (eval (.IfExp c a b pos) X.env) = (do if ← isTrue c X.env (eval c X.env) then isTrue a X.env (eval a X.env) else isTrue b X.env (eval b X.env)) := rfl
  rw [e]
  refine wpAny_bind (thn (hc.run pins s σ H (fun d H1 => if d = true then TBx X ca W Φ A σ H1 Q else TBx X ca W Φ B σ H1 Q) I ?_) fun d s1 ⟨H1, I1, q1⟩ => ?_)
  · refine rd_bind (m := denB Φ C) h' fun μ1 env st1 x H1 vx rs1 re1 r1 h1 => ?_
    subst r1
    cases x with
    | true => exact ⟨μ1, env, st1, rs1, re1, h1⟩
    | false => exact ⟨μ1, env, st1, rs1, re1, h1⟩
  · cases d with
    | true => exact ha.run pins s1 σ H1 Q I1 q1
    | false => exact hb.run pins s1 σ H1 Q I1 q1
theorem xts_nil : PTs X [] (TTx X ca W Φ []) := ⟨fun pins s σ H Q I ⟨μ, env, st, rs, re, h⟩ => pts_nil.run pins s σ H Q I (h.here rs rfl)⟩
theorem xts_one (ha : PT X a (TBx X ca W Φ A)) : PTs X [a] (TTx X ca W Φ [A]) := ⟨fun pins s σ H Q I h => (pts_one ha).run pins s σ H Q I (by
  have h' : rd X.K X.w ca W (fun _ _ b c => b = c) (fun env => M.bind (denB Φ A env) fun c => if c then denT Φ [] env else M.pure false) σ H Q := by
    have e : (denT Φ [A]) = fun env => M.bind (denB Φ A env) fun c => if c then denT Φ [] env else M.pure false := funext fun env => denT_cons Φ A [] env
    rw [← e]; exact h
  refine rd_bind (m := denB Φ A) h' fun μ1 env st1 x H1 vx rs1 re1 r1 h1 => ?_
  subst r1
  cases x with
  | true => exact h1.here rs1 rfl
  | false => exact h1.here rs1 rfl)⟩

/-! ### arguments, displays, subscripts, calls of built-ins -/
theorem xa_nil : PA X [] (TAx X ca W Φ []) := pa_nil.imp fun σ H Q ⟨μ, env, st, rs, re, h⟩ => h.here rs .nil
theorem xa_cons (ha : PE X a (TEx X ca W Φ A)) (hr : PA X es (TAx X ca W Φ As)) (hp : plainE a = true) : PA X (a :: es) (TAx X ca W Φ (A :: As)) :=
  (pa_cons ha hr (star_cons hp)).imp fun σ H Q h => by
    refine rd_bind (m := den Φ A) h fun μ1 env st1 x H1 vx rs1 re1 r1 h1 => ?_
    exact ⟨μ1, env, st1, rs1, re1, Po.bi h1 fun ys st2 μ2 H2 vys _ x2 rs2 r2 h2 => h2.here rs2 (.cons (r1.mono x2) r2)⟩
theorem xe_tup {k : Nat} (h : PA X es (TAx X ca W Φ As)) : PE X (.Tuple es k pos) (TEx X ca W Φ (.tup As)) :=
  (pe_tup h).imp fun σ H Q h => by
    refine rd_bind (m := dens Φ As) h fun μ1 env st1 xs H1 vs rs1 re1 r1 h1 => ?_
    unfold newT at h1
    split at h1
    · rename_i hl
      rw [lim_eq, r1.length] at hl
      exact ⟨hl, h1.newU rs1 r1⟩
    · exact False.elim h1
theorem xe_lst (h : PA X es (TAx X ca W Φ As)) : PE X (.List es pos) (TEx X ca W Φ (.lst As)) :=
  (pe_lst h).imp fun σ H Q h => by
    refine rd_bind (m := dens Φ As) h fun μ1 env st1 xs H1 vs rs1 re1 r1 h1 => ?_
    obtain ⟨q1, q2⟩ := Po.newL h1 rs1 r1
    exact ⟨by rw [← r1.length]; exact q1, q2⟩
theorem xe_idx (hu : X.A.units + 65 < cLine) (ha : PE X a (TEx X ca W Φ A)) (hb : PE X b (TEx X ca W Φ B)) (hp : PlainIx b) : PE X (.Subscript a b pos) (TEx X ca W Φ (.idx A B)) :=
  (pe_ix (opr_idx (ca := ca) (W := W) hu) ha hb hp).imp fun σ H Q h => by
    refine rd_bind (m := den Φ A) h fun μ1 env st1 x H1 vx rs1 re1 r1 h1 => ?_
    exact ⟨μ1, env, st1, rs1, re1, Po.bi h1 fun y st2 μ2 H2 vy _ x2 rs2 r2 h2 => ⟨μ2, st2, x, y, rs2, r1.mono x2, r2, h2⟩⟩
theorem _root_.L2.PO.imp {e : Option Expr} {t t' : TO} (h : PO X e t) (k : ∀ σ H Q, t' σ H Q → t σ H Q) : PO X e t' := ⟨fun pins s σ H Q I q => h.run pins s σ H Q I (k σ H Q q)⟩
theorem xo_none : PO X none (TOx X ca W Φ none) := L2.PO.imp po_none fun σ H Q ⟨μ, env, st, rs, re, h⟩ => h.here rs rfl
theorem xo_some (h : PE X e (TEx X ca W Φ A)) : PO X (some e) (TOx X ca W Φ (some A)) := L2.PO.imp (po_some h) fun σ H Q h => by
  refine rd_bind (m := den Φ A) h fun μ1 env st1 x H1 vx rs1 re1 r1 h1 => ?_
  cases r1 with
  | int i => exact ⟨i, rfl, h1.here rs1 rfl⟩
  | _ => exact False.elim h1
theorem xe_slice {lo hi : Option Expr} {L U : Option E} (ha : PE X a (TEx X ca W Φ A)) (hl : PO X lo (TOx X ca W Φ L)) (hh : PO X hi (TOx X ca W Φ U)) : PE X (.Subscript a (.Slice lo hi none p2) pos) (TEx X ca W Φ (.slice A L U)) :=
  (pe_slice (opr_slice (ca := ca) (W := W)) ha hl hh).imp fun σ H Q h => by
    refine rd_bind (m := den Φ A) h fun μ1 env st1 x H1 vx rs1 re1 r1 h1 => ?_
    refine ⟨μ1, env, st1, rs1, re1, Po.bi h1 fun y st2 μ2 H2 vy _ x2 rs2 r2 h2 => ?_⟩
    subst r2
    refine ⟨μ2, env, st2, rs2, re1.mono x2, Po.bi h2 fun z st3 μ3 H3 vz _ x3 rs3 r3 h3 => ?_⟩
    subst r3
    exact ⟨μ3, st3, x, rs3, (r1.mono x2).mono x3, h3⟩
theorem xe_biB {f : Bi} {id : String} {x : Str} (hc : CallR X (.builtin id) (rBi X ca W f)) (hg : Gl X x) (hm : X.mg x = none) (hv : bootBuiltins x = some (.builtin id)) (ha : PA X (e :: es) (TAx X ca W Φ As)) (hn : x ≠ "__name__") (hdb : (x == ("__debug__" : Str)) = false)
    (hp : (e :: es).all plainE = true) : PE X (.Call (.Name x p2) (e :: es) [] pos) (TEx X ca W Φ (.bi f As)) := by
  simp only [List.all_cons, Bool.and_eq_true] at hp
  refine (pe_callB hc hg hm hv ha hn hdb (star_cons hp.1) (star_none hp.2)).imp fun σ H Q h => ?_
  exact rd_bind (m := dens Φ As) h fun μ1 env st1 xs H1 vs rs1 re1 r1 h1 => ⟨μ1, st1, xs, rs1, r1, h1⟩
theorem xe_biT {f : Bi} {T : String} {x : Str} (hc : CallR X (.type T) (rBi X ca W f)) (hg : Gl X x) (hm : X.mg x = none) (hv : bootBuiltins x = some (.type T)) (ha : PA X (e :: es) (TAx X ca W Φ As)) (hn : x ≠ "__name__") (hdb : (x == ("__debug__" : Str)) = false)
    (hp : (e :: es).all plainE = true) : PE X (.Call (.Name x p2) (e :: es) [] pos) (TEx X ca W Φ (.bi f As)) := by
  simp only [List.all_cons, Bool.and_eq_true] at hp
  refine (pe_callTy hc hg hm hv ha hn hdb (star_cons hp.1) (star_none hp.2)).imp fun σ H Q h => ?_
  exact rd_bind (m := dens Φ As) h fun μ1 env st1 xs H1 vs rs1 re1 r1 h1 => ⟨μ1, st1, xs, rs1, r1, h1⟩
theorem me_ty {K : PySem.W.Frag} {st : Sto} {m : Me} {x : D} {μ : List Addr} {H : Hp} {v : V} (rs : RS X.K X.w ca μ st H) (r : RV X.K μ H x v) (h : meTy st m x = true) : TyG X (if m.ofL then "list" else "dict") v H := by
  cases r with
  | ref hn =>
    obtain ⟨o, ho, ro⟩ := rs.obj hn
    simp only [meTy, ho] at h
    cases o with
    | lst xs =>
      obtain ⟨vs, e, _⟩ := ro
      rw [if_pos h]
      exact tyG_list (.of e)
    | dic kvs ep =>
      obtain ⟨es, e, _⟩ := ro
      rw [if_neg (by simpa using h)]
      exact tyG_dict e
    | _ => cases h
  | _ => cases h
theorem xe_meth {m : Me} {T id : String} {name : Str} {apos cpos : Pos} (hT : T = if m.ofL then "list" else "dict") (pa : PlainAttrs T) (slot : Slot T name id) (hty : typeOf (.builtin id) = pure (.type "method_descriptor")) (hm : MtR X id (rMe X ca W m))
    (ha : PE X a (TEx X ca W Φ A)) (hs : PA X es (TAx X ca W Φ As)) (hbase : baseE a = true) (hp : es.all plainE = true) (hl : es.length < 30) (hline : (apos.endLine == cpos.line) = true) :
    PE X (.Call (.Attribute a name apos) es [] cpos) (TEx X ca W Φ (.meth m A As)) :=
  (pe_meG pa slot hty hm ha hs hbase hp hl hline).imp fun σ H Q h => by
    refine rd_bind (m := den Φ A) h fun μ1 env st1 x H1 vx rs1 re1 r1 h1 => ?_
    split at h1
    · rename_i ht
      refine ⟨by rw [hT]; exact me_ty (K := X.K) rs1 r1 ht, μ1, env, st1, rs1, re1, Po.bi h1 fun ys st2 μ2 H2 vs _ x2 rs2 r2 h2 => ⟨μ2, st2, x, ys, rs2, r1.mono x2, r2, h2⟩⟩
    · exact False.elim h1
end
end Mi

set_option Elab.async false
set_option linter.all false
set_option maxRecDepth 100000
set_option maxHeartbeats 1000000
/-! Mi, part I: what is iterated, targets, statements, comprehensions. -/
namespace Mi
open PySem PySem.Spec PyProof.Rows L2

/-! ### what is iterated -/
def ItR (K : PySem.W.Frag) (w : World) (ca : Ca) (μ1 : List Addr) (H1 : Hp) (t : Itv) (J : It) : Prop :=
  ∀ μ st H i, Xt K μ1 H1 μ H → RS K w ca μ st H → match t.at st i with
    | none => True
    | some none => J.stop i H
    | some (some d) => J.go i H ∧ ∀ x H', J.yld i H x H' → Xt K μ H μ H' ∧ RS K w ca μ st H' ∧ RV K μ H' d x ∧ ∀ a o, H a = some o → H' a = some o
/-- the keys of the dict at a -/
def Itq (a : Addr) (n ep : Nat) : It :=
  ⟨fun i H => i < n ∧ ∃ es en x, H a = some (RawD a es ep) ∧ es.size = n ∧ es[i]? = some en ∧ RelV x en.key,
   fun i H x H' => H' = H ∧ ∀ es en, H a = some (RawD a es ep) → es[i]? = some en → RelV x en.key, fun i H => n ≤ i ∧ ∃ es, H a = some (RawD a es ep) ∧ es.size = n⟩
theorem turn_q {P : Program} {w : World} {K : PySem.W.Frag} {tg : Expr} (a it : Addr) (n ep : Nat) : Turn P w K tg (Itq a n ep) [it] it (fun i h => h.IsKeyIter it a i n ep) where
  mem := by simp
  obj := fun i h st b hb => by
    have e : b = it := by simpa using hb
    subst e
    obtain ⟨oi, e, c, dd⟩ := st
    exact ⟨oi, e, fun v z => by rw [dd] at z; cases z⟩
  keep := fun i h h' st k => st.at fun oi e => k it (by simp) oi e
  item := by
    intro X hP hw hK hc i pins s σ H E I hf st hg
    subst hP hw hK
    obtain ⟨hi, es, en, x, hH, hsz, hx, rx⟩ := hg
    obtain ⟨f0, f1, f2, f3, f4, f5⟩ := hf it (by simp)
    obtain ⟨o, g1, g2, g3⟩ := rawD_at I.hok hH
    refine next_key_item st g1 g3 hsz hx fun h' st' sb => ?_
    have I1 : Inv X pins σ H { s with heap := h' } := I.turned (t' := s.toks) (fun b ob hb e => (sb.2 b hb).trans e) f0 f1 f3 f4 f5
    obtain ⟨oi, e, c, dd⟩ := id st'
    exact ⟨en.key, rfl, go_of (s := { s with heap := h' }) e c dd (by decide) ⟨x, H, I1, rx, ⟨rfl, fun es2 en2 h2 e2 => by
      obtain ⟨o', g1', g2', g3'⟩ := rawD_at I.hok h2
      rw [g1] at g1'
      cases g1'
      rw [g3] at g3'
      cases g3'
      rw [hx] at e2
      cases e2
      exact rx⟩, st', fun b hb => (hf b hb).1⟩⟩
  done := by
    intro X hP hw hK hc i pins s σ H E I hf st hg
    subst hP hw hK
    obtain ⟨hi, es, hH, hsz⟩ := hg
    obtain ⟨f0, f1, f2, f3, f4, f5⟩ := hf it (by simp)
    obtain ⟨o, g1, g2, g3⟩ := rawD_at I.hok hH
    exact next_key_end (I.ok.hd hc) st g1 g3 hsz hi fun h' eb => ⟨rfl, I.turned (t' := s.toks) (fun b ob hb e => eb b ob hb e) f0 f1 f3 f4 f5⟩
  self := fun A i s Q E st h => wpAny_pyIter_keyiter st h

section
variable {X : Cx} {ca : Ca} {W : XK} {Φ : Nat → List D → M D} {a b c e tg iter : Expr} {es : List Expr} {A B C : E} {As : List E} {pos p2 : Pos}
abbrev TIx (X : Cx) (ca : Ca) (W : XK) (Φ : Nat → List D → M D) (i : I) : TI := rd X.K X.w ca W (ItR X.K X.w ca) (denI Φ i)
theorem itR_list {K : PySem.W.Frag} {w : World} {μ1 : List Addr} {H1 : Hp} {k : Nat} {p : Addr} (hp : μ1[k]? = some p) : ItR K w ca μ1 H1 (.sq (.ref k)) (Itl K p) := fun μ st H i x rs => by
  obtain ⟨o, ho, ro⟩ := rs.obj (x.get hp)
  simp only [Itv.at, Sq.at, ho]
  have go : ∀ {xs : List D} {vs : List V}, SqL K H p vs → RVs K μ H xs vs → (match some xs[i]? with
    | none => True
    | some none => (Itl K p).stop i H
    | some (some d) => (Itl K p).go i H ∧ ∀ x H', (Itl K p).yld i H x H' → Xt K μ H μ H' ∧ RS K w ca μ st H' ∧ RV K μ H' d x ∧ ∀ a o, H a = some o → H' a = some o) := fun {xs vs} hs r => by
    cases e : xs[i]? with
    | none => exact ⟨vs, hs, by rw [← r.length]; exact List.getElem?_eq_none_iff.mp e⟩
    | some d =>
      obtain ⟨v, hv, rv⟩ := r.get e
      refine ⟨⟨vs, v, hs, hv⟩, fun y H' hy => ?_⟩
      obtain ⟨rfl, hy⟩ := hy
      have := hy vs hs
      rw [hv] at this
      cases this
      exact ⟨.refl, rs, rv, fun _ _ z => z⟩
  cases o with
  | lst xs => obtain ⟨vs, e, r⟩ := ro; exact go (.of e) r
  | dic kvs ep => trivial
  | exc c v => trivial
theorem itR_frz {K : PySem.W.Frag} {w : World} {μ1 : List Addr} {H1 : Hp} {xs : List D} {vs : List V} {p : Addr} (hs : SqF K H1 p vs) (r : RVs K μ1 H1 xs vs) : ItR K w ca μ1 H1 (.sq (.frz xs)) (Itl K p) := fun μ st H i x rs => by
  simp only [Itv.at, Sq.at]
  have hs' := (x.frz _ _ hs).sq
  cases e : xs[i]? with
  | none => exact ⟨vs, hs', by rw [← r.length]; exact List.getElem?_eq_none_iff.mp e⟩
  | some d =>
    obtain ⟨v, hv, rv⟩ := r.get e
    refine ⟨⟨vs, v, hs', hv⟩, fun y H' hy => ?_⟩
    obtain ⟨rfl, hy⟩ := hy
    have := hy vs hs'
    rw [hv] at this
    cases this
    exact ⟨.refl, rs, rv.mono x, fun _ _ z => z⟩
theorem itR_tup {K : PySem.W.Frag} {w : World} {μ1 : List Addr} {H1 : Hp} {xs : List D} {vs : List V} {p : Addr} (hs : SqT K H1 p vs) (r : RVs K μ1 H1 xs vs) : ItR K w ca μ1 H1 (.sq (.tup xs)) (Itt K p) := fun μ st H i x rs => by
  simp only [Itv.at, Sq.at]
  have hs' := x.tup _ _ hs
  cases e : xs[i]? with
  | none => exact ⟨vs, hs', by rw [← r.length]; exact List.getElem?_eq_none_iff.mp e⟩
  | some d =>
    obtain ⟨v, hv, rv⟩ := r.get e
    refine ⟨⟨vs, v, hs', hv⟩, fun y H' hy => ?_⟩
    obtain ⟨rfl, hy⟩ := hy
    have := hy vs hs'
    rw [hv] at this
    cases this
    exact ⟨.refl, rs, rv.mono x, fun _ _ z => z⟩
theorem itR_rng {K : PySem.W.Frag} {w : World} {μ1 : List Addr} {H1 : Hp} {lo : Int} {n : Nat} : ItR K w ca μ1 H1 (.rng lo n) (Itr lo n) := fun μ st H i x rs => by
  simp only [Itv.at]
  by_cases hi : i < n
  · rw [if_pos hi]
    exact ⟨hi, fun y H' ⟨e, h⟩ => by subst e h; exact ⟨.refl, rs, .int _, fun _ _ z => z⟩⟩
  · rw [if_neg hi]
    exact Nat.le_of_not_lt hi
/-- a new tuple beside the store -/
theorem pair_new {K : PySem.W.Frag} {w : World} {μ : List Addr} {st : Sto} {H : Hp} {T : Addr} {ds : List D} {vs : List V} (rs : RS K w ca μ st H) (hT : H T = none) (r : RVs K μ H ds vs) :
    Xt K μ H μ (upd H T (.tup vs)) ∧ RS K w ca μ st (upd H T (.tup vs)) ∧ RV K μ (upd H T (.tup vs)) (.tup ds) (.ref T) ∧ ∀ a o, H a = some o → upd H T (.tup vs) a = some o :=
  ⟨.new hT, rs.new hT, .tup (.of upd_same) (r.mono (.new hT)), fun a o e => by rw [upd_ne (ne_of_none e hT)]; exact e⟩
/-- a list that is read, at any later time -/
def LsR (K : PySem.W.Frag) (w : World) (ca : Ca) (μ1 : List Addr) (H1 : Hp) (q : Sq) (p : Addr) : Prop := ∀ μ st H (i : Nat), Xt K μ1 H1 μ H → RS K w ca μ st H → match q.at st i with
    | none => True
    | some none => ∃ vs, SqL K H p vs ∧ vs.length ≤ i
    | some (some d) => ∃ vs v, SqL K H p vs ∧ vs[i]? = some v ∧ RV K μ H d v
theorem lsq_of {K : PySem.W.Frag} {w : World} {μ : List Addr} {st : Sto} {H : Hp} {x : D} {v : V} {q : Sq} (rs : RS K w ca μ st H) (r : RV K μ H x v) (h : lsq st x = some q) : ∃ p vs, v = .ref p ∧ SqL K H p vs ∧ LsR K w ca μ H q p := by
  have go : ∀ {μ : List Addr} {H : Hp} {p : Addr} {i : Nat} {xs : List D} {vs : List V}, SqL K H p vs → RVs K μ H xs vs → (match some xs[i]? with
    | none => True
    | some none => ∃ vs, SqL K H p vs ∧ vs.length ≤ i
    | some (some d) => ∃ vs v, SqL K H p vs ∧ vs[i]? = some v ∧ RV K μ H d v) := fun {μ H p i xs vs} hs r => by
    cases e : xs[i]? with
    | none => exact ⟨vs, hs, by rw [← r.length]; exact List.getElem?_eq_none_iff.mp e⟩
    | some d =>
      obtain ⟨v, hv, rv⟩ := r.get e
      exact ⟨vs, v, hs, hv, rv⟩
  cases r with
  | frz ha hr =>
    cases h
    exact ⟨_, _, rfl, ha.sq, fun μ1 st1 H1 i x rs1 => go (x.frz _ _ ha).sq (hr.mono x)⟩
  | ref hn =>
    rename_i n p
    obtain ⟨o, ho, ro⟩ := rs.obj hn
    simp only [lsq, ho] at h
    cases o with
    | lst xs =>
      cases h
      obtain ⟨vs, e, _⟩ := ro
      refine ⟨p, vs, rfl, .of e, fun μ1 st1 H1 i x rs1 => ?_⟩
      obtain ⟨o1, ho1, ro1⟩ := rs1.obj (x.get hn)
      simp only [Sq.at, ho1]
      cases o1 with
      | lst xs => obtain ⟨vs, e, r⟩ := ro1; exact go (.of e) r
      | dic kvs ep => trivial
      | exc c v => trivial
    | _ => cases h
  | _ => cases h
theorem itR_enum {K : PySem.W.Frag} {w : World} {μ1 : List Addr} {H1 : Hp} {k : Sq} {p : Addr} (hp : LsR K w ca μ1 H1 k p) : ItR K w ca μ1 H1 (.enum k) (Ite K p) := fun μ st H i x rs => by
  have q := hp μ st H i x rs
  simp only [Itv.at]
  cases e : k.at st i with
  | none => trivial
  | some o =>
    rw [e] at q
    cases o with
    | none => exact q
    | some d =>
      obtain ⟨vs, v, hs, hv, rv⟩ := q
      refine ⟨⟨vs, v, hs, hv⟩, fun y H' ⟨T, u, ey, hT, eH, hu⟩ => ?_⟩
      have := hu vs hs
      rw [hv] at this
      cases this
      subst ey eH
      exact pair_new rs hT (.cons (.int _) (.cons rv .nil))
theorem itR_zip {K : PySem.W.Frag} {w : World} {μ1 : List Addr} {H1 : Hp} {k l : Sq} {p q : Addr} (hp : LsR K w ca μ1 H1 k p) (hq : LsR K w ca μ1 H1 l q) : ItR K w ca μ1 H1 (.zip k l) (Itz K p q) := fun μ st H i x rs => by
  have q1 := hp μ st H i x rs
  have q2 := hq μ st H i x rs
  simp only [Itv.at]
  cases e : k.at st i with
  | none => trivial
  | some o =>
    cases e2 : l.at st i with
    | none => cases o <;> trivial
    | some o' =>
      rw [e] at q1
      rw [e2] at q2
      cases o with
      | none =>
        obtain ⟨vs, hs, hl⟩ := q1
        cases o' with
        | none => obtain ⟨us, hs2, hl2⟩ := q2; exact ⟨vs, us, hs, hs2, .inl hl⟩
        | some d => obtain ⟨us, u, hs2, hu, _⟩ := q2; exact ⟨vs, us, hs, hs2, .inl hl⟩
      | some d =>
        obtain ⟨vs, v, hs, hv, rv⟩ := q1
        cases o' with
        | none => obtain ⟨us, hs2, hl2⟩ := q2; exact ⟨vs, us, hs, hs2, .inr hl2⟩
        | some d2 =>
          obtain ⟨us, u, hs2, hu, ru⟩ := q2
          refine ⟨⟨vs, us, v, u, hs, hs2, hv, hu⟩, fun y H' ⟨T, v', u', ey, hT, eH, h1, h2⟩ => ?_⟩
          have := h1 vs hs
          rw [hv] at this
          cases this
          have := h2 us hs2
          rw [hu] at this
          cases this
          subst ey eH
          exact pair_new rs hT (.cons rv (.cons ru .nil))
theorem itR_keys {μ1 : List Addr} {H1 : Hp} {k n ep : Nat} {p : Addr} (hp : μ1[k]? = some p) : ItR X.K X.w ca μ1 H1 (.keys k ep n) (Itq p n ep) := fun μ st H i x rs => by
  obtain ⟨o, ho, ro⟩ := rs.obj (x.get hp)
  simp only [Itv.at, ho]
  cases o with
  | dic kvs ep' =>
    obtain ⟨es, e, hs, hz, hn, hpd⟩ := ro
    have hl := PySem.Paired.length hpd
    simp only
    by_cases hc : ep' = ep ∧ kvs.length = n
    · rw [if_pos hc]
      obtain ⟨rfl, rfl⟩ := hc
      cases ei : kvs[i]? with
      | none => exact ⟨List.getElem?_eq_none_iff.mp ei, es, e, by rw [← Array.length_toList]; exact hl.symm⟩
      | some q =>
        obtain ⟨en, he, hr⟩ := paired_at hpd ei
        obtain ⟨v, rk, rv⟩ := hr.key
        have he' : es[i]? = some en := by rw [← Array.getElem?_toList]; exact he
        refine ⟨⟨(List.getElem?_eq_some_iff.mp ei).1, es, en, v, e, by rw [← Array.length_toList]; exact hl.symm, he', rk⟩, fun y H' ⟨eH, hy⟩ => ?_⟩
        subst eH
        have ry := hy es en e he'
        cases ry.inj rk
        exact ⟨.refl, rs, rv, fun _ _ z => z⟩
    · rw [if_neg hc]; trivial
  | _ => trivial

theorem rd1 {γ δ : Type} {R' : List Addr → Hp → γ → δ → Prop} {f : Sl → D → M γ} {σ : L2.St} {H : Hp} {Q : δ → Hp → Prop} {Q1 : List V → Hp → Prop} (h : rd X.K X.w ca W R' (fun env => M.bind (den Φ A env) (f env)) σ H Q)
    (k : ∀ μ1 env st1 x H1 v, RS X.K X.w ca μ1 st1 H1 → RE X.K μ1 H1 env σ → RV X.K μ1 H1 x v → Po X.K X.w ca W R' μ1 H1 (f env x st1) Q → Q1 [v] H1) : TAx X ca W Φ [A] σ H Q1 := by
  obtain ⟨μ, env, st, rs, re, h⟩ := h
  refine ⟨μ, env, st, rs, re, ?_⟩
  have h : Po X.K X.w ca W R' μ H ((den Φ A env st).bind (f env)) Q := h
  show Po X.K X.w ca W (RVs X.K) μ H ((den Φ A env st).bind fun x => M.pure [x]) Q1
  cases e : den Φ A env st with
  | no => rw [e] at h; exact h
  | exc c v s => rw [e] at h; exact h
  | ok x s =>
    rw [e] at h
    intro μ1 H1 vs x1 rs1 r1
    obtain ⟨v, rfl, r⟩ := r1.one
    exact k μ1 env s x H1 v rs1 (re.mono x1) r (Po.shift x1 h)
theorem rd2 {γ δ : Type} {R' : List Addr → Hp → γ → δ → Prop} {f : Sl → D → D → M γ} {σ : L2.St} {H : Hp} {Q : δ → Hp → Prop} {Q1 : List V → Hp → Prop} (h : rd X.K X.w ca W R' (fun env => M.bind (den Φ A env) fun x => M.bind (den Φ B env) (f env x)) σ H Q)
    (k : ∀ μ1 env st1 x y H1 v u, RS X.K X.w ca μ1 st1 H1 → RE X.K μ1 H1 env σ → RV X.K μ1 H1 x v → RV X.K μ1 H1 y u → Po X.K X.w ca W R' μ1 H1 (f env x y st1) Q → Q1 [v, u] H1) : TAx X ca W Φ [A, B] σ H Q1 := by
  obtain ⟨μ, env, st, rs, re, h⟩ := h
  refine ⟨μ, env, st, rs, re, ?_⟩
  have h : Po X.K X.w ca W R' μ H ((den Φ A env st).bind fun x => M.bind (den Φ B env) (f env x)) Q := h
  show Po X.K X.w ca W (RVs X.K) μ H ((den Φ A env st).bind fun x => M.bind (M.bind (den Φ B env) fun y => M.pure [y]) fun xs => M.pure (x :: xs)) Q1
  cases e : den Φ A env st with
  | no => rw [e] at h; exact h
  | exc c v s => rw [e] at h; exact h
  | ok x s =>
    rw [e] at h
    have h : Po X.K X.w ca W R' μ H ((den Φ B env s).bind (f env x)) Q := h
    show Po X.K X.w ca W (RVs X.K) μ H (((den Φ B env s).bind fun y => M.pure [y]).bind fun xs => M.pure (x :: xs)) Q1
    cases e2 : den Φ B env s with
    | no => rw [e2] at h; exact h
    | exc c v s => rw [e2] at h; exact h
    | ok y s2 =>
      rw [e2] at h
      intro μ1 H1 vs x1 rs1 r1
      obtain ⟨v, u, rfl, r, r'⟩ := r1.two
      exact k μ1 env s2 x y H1 v u rs1 (re.mono x1) r r' (Po.shift x1 h)
theorem _root_.L2.PI.imp {t t' : TI} (h : PI X tg iter t) (k : ∀ σ H R, t' σ H R → t σ H R) : PI X tg iter t' := ⟨fun pins s σ H R I q => h.run pins s σ H R I (k σ H R q)⟩
theorem xi_seq (he : PE X e (TEx X ca W Φ A)) : PI X tg e (TIx X ca W Φ (.seq A)) := by
  refine ⟨fun pins s σ H R I h => ?_⟩
  refine thn (he.run pins s σ H (fun v H1 => ∃ μ1 st1 x t, RS X.K X.w ca μ1 st1 H1 ∧ RV X.K μ1 H1 x v ∧ (match x with
    | .tup xs => t = Itv.sq (.tup xs)
    | .frz xs => t = Itv.sq (.frz xs)
    | .ref k => match st1[k]? with
      | some (.dic kvs ep) => t = .keys k ep kvs.length
      | some (.lst _) => t = .sq (.ref k)
      | _ => False
    | _ => False) ∧ ∀ J, ItR X.K X.w ca μ1 H1 t J → R J H1) I ?_) fun v s1 ⟨x, H1, I1, r1, μ1, st1, d, t, rs, rv, ht, q⟩ => ?_
  · refine rd_bind (m := den Φ A) h fun μ1 env st1 x H1 vx rs1 re1 r1 h1 => ?_
    refine ⟨μ1, st1, x, ?_⟩
    cases x with
    | tup xs => exact ⟨_, rs1, r1, rfl, fun J hJ => h1.here rs1 hJ⟩
    | frz xs => exact ⟨_, rs1, r1, rfl, fun J hJ => h1.here rs1 hJ⟩
    | ref k =>
      simp only at h1 ⊢
      cases e : st1[k]? with
      | none => rw [e] at h1; exact False.elim h1
      | some o =>
        rw [e] at h1
        cases o with
        | lst xs => exact ⟨_, rs1, r1, rfl, fun J hJ => h1.here rs1 hJ⟩
        | dic kvs ep => exact ⟨_, rs1, r1, rfl, fun J hJ => h1.here rs1 hJ⟩
        | exc c v => exact False.elim h1
    | _ => exact False.elim h1
  · cases rv with
    | tup hs hr =>
      cases ht
      cases r1
      obtain ⟨its, rvs, p, hz⟩ := I1.tuple hs
      refine wpAny_pyIter_tuple (show s1.heap.IsTuple _ its.toArray from p) ?_
      exact pi_one (tk := s1.toks) I1 _ (turn_tuple _ _) ⟨_, Heap.get?_push_size _ rfl, rfl, rfl⟩ (q _ (itR_tup hs hr))
    | frz hs hr =>
      cases ht
      cases r1
      obtain ⟨its, rvs, p, hz⟩ := I1.list hs.sq
      refine wpAny_pyIter_list p.isList ?_
      exact pi_one (tk := s1.toks) I1 _ (turn_list _ _) ⟨_, Heap.get?_push_size _ rfl, rfl, rfl⟩ (q _ (itR_frz hs hr))
    | ref hn =>
      obtain ⟨o, ho, ro⟩ := rs.obj hn
      simp only [ho] at ht
      cases r1
      have lst : ∀ {vs}, SqL X.K H1 _ vs → (∀ J, ItR X.K X.w ca μ1 H1 (.sq (.ref _)) J → R J H1) → wpAny (model X.prog X.w) X.A (pyIter (.ref _)) (PIE X pins σ tg R) X.xe s1 := fun {vs} hs q => by
        obtain ⟨its, rvs, p, hz⟩ := I1.list hs
        refine wpAny_pyIter_list p.isList ?_
        exact pi_one (tk := s1.toks) I1 _ (turn_list _ _) ⟨_, Heap.get?_push_size _ rfl, rfl, rfl⟩ (q _ (itR_list hn))
      cases o with
      | lst xs => cases ht; obtain ⟨vs, e, _⟩ := ro; exact lst (.of e) q
      | dic kvs ep =>
        cases ht
        obtain ⟨es, e, hsys, hz, hnd, hp⟩ := id ro
        obtain ⟨o, g1, g2, g3⟩ := rawD_at I1.hok e
        refine iter_keys hsys g1 g2 g3 ?_
        refine pi_one (tk := s1.toks) I1 _ (turn_q _ _ kvs.length ep) ?_ (q _ (itR_keys hn))
        have hl := PySem.Paired.length hp
        rw [show kvs.length = es.size by rw [hl, Array.length_toList]]
        exact ⟨_, Heap.get?_push_size _ rfl, rfl, rfl⟩
      | exc c v => exact False.elim ht
    | _ => exact False.elim ht
theorem xi_rng1 (hg : Gl X "range") (hm : X.mg "range" = none) (ha : PE X a (TEx X ca W Φ A)) (hp : plainE a = true) : PI X tg (.Call (.Name "range" p2) [a] [] pos) (TIx X ca W Φ (.rng1 A)) :=
  (pi_range1 hg hm (xa_cons ha xa_nil hp) (star_cons hp)).imp fun σ H R h => by
    refine rd1 (Φ := Φ) (A := A) h fun μ1 env st1 x H1 v rs1 re1 r1 h1 => ?_
    cases r1 with
    | int i =>
      simp only at h1
      split at h1
      · rename_i hs
        obtain ⟨s1, s2⟩ := small_iff hs
        exact ⟨i, rfl, s1, s2, h1.here rs1 itR_rng⟩
      · exact False.elim h1
    | _ => exact False.elim h1
theorem xi_rng2 (hg : Gl X "range") (hm : X.mg "range" = none) (ha : PE X a (TEx X ca W Φ A)) (hb : PE X b (TEx X ca W Φ B)) (hp : plainE a = true) (hp' : plainE b = true) : PI X tg (.Call (.Name "range" p2) [a, b] [] pos) (TIx X ca W Φ (.rng2 A B)) :=
  (pi_range2 hg hm (xa_cons ha (xa_cons hb xa_nil hp') hp) (by rw [star_cons hp, star_cons hp']; rfl) (by rw [star_cons hp']; rfl)).imp fun σ H R h => by
    refine rd2 (Φ := Φ) (A := A) (B := B) h fun μ1 env st1 x y H1 v u rs1 re1 r1 r2 h1 => ?_
    cases r1 with
    | int i =>
      cases r2 with
      | int j =>
        simp only at h1
        split at h1
        · rename_i hs
          rw [Bool.and_eq_true] at hs
          obtain ⟨s1, s2⟩ := small_iff hs.1
          obtain ⟨s3, s4⟩ := small_iff hs.2
          exact ⟨i, j, rfl, ⟨s1, s2, s3, s4⟩, h1.here rs1 itR_rng⟩
        · exact False.elim h1
      | _ => exact False.elim h1
    | _ => exact False.elim h1
theorem xi_enum {elts : List Expr} {kk : Nat} {tpos : Pos} (hg : Gl X "enumerate") (hm : X.mg "enumerate" = none) (ha : PE X a (TEx X ca W Φ A)) (hp : plainE a = true) : PI X (.Tuple elts kk tpos) (.Call (.Name "enumerate" p2) [a] [] pos) (TIx X ca W Φ (.enum A)) :=
  (pi_enum hg hm (xa_cons ha xa_nil hp) (star_cons hp)).imp fun σ H R h => by
    refine rd1 (Φ := Φ) (A := A) h fun μ1 env st1 x H1 v rs1 re1 r1 h1 => ?_
    cases e : lsq st1 x with
    | none => rw [e] at h1; exact False.elim h1
    | some k =>
      rw [e] at h1
      obtain ⟨p, vs, rfl, hs, hn⟩ := lsq_of rs1 r1 e
      exact ⟨p, vs, rfl, hs, h1.here rs1 (itR_enum hn)⟩
theorem xi_zip {elts : List Expr} {kk : Nat} {tpos : Pos} (hg : Gl X "zip") (hm : X.mg "zip" = none) (ha : PE X a (TEx X ca W Φ A)) (hb : PE X b (TEx X ca W Φ B)) (hp : plainE a = true) (hp' : plainE b = true) :
    PI X (.Tuple elts kk tpos) (.Call (.Name "zip" p2) [a, b] [] pos) (TIx X ca W Φ (.zip A B)) :=
  (pi_zip hg hm (xa_cons ha (xa_cons hb xa_nil hp') hp) (by rw [star_cons hp]) (by rw [star_cons hp']; rfl)).imp fun σ H R h => by
    refine rd2 (Φ := Φ) (A := A) (B := B) h fun μ1 env st1 x y H1 v u rs1 re1 r1 r2 h1 => ?_
    cases e : lsq st1 x with
    | none => rw [e] at h1; exact False.elim h1
    | some k =>
      cases e2 : lsq st1 y with
      | none => rw [e, e2] at h1; exact False.elim h1
      | some l =>
        rw [e, e2] at h1
        obtain ⟨p, vs, rfl, hs, hn⟩ := lsq_of rs1 r1 e
        obtain ⟨q, us, rfl, hs2, hn2⟩ := lsq_of rs1 r2 e2
        exact ⟨p, q, vs, us, rfl, hs, hs2, h1.here rs1 (itR_zip hn hn2)⟩
end
end Mi

set_option Elab.async false
set_option linter.all false
set_option maxRecDepth 100000
set_option maxHeartbeats 1000000
/-! Mi, part J: targets, statements. -/
namespace Mi
open PySem PySem.Spec PyProof.Rows L2

section
variable {K : PySem.W.Frag} {μ : List Addr} {H : Hp} {env : Sl} {σ : L2.St}
theorem RE.set (re : RE K μ H env σ) {i : Nat} {d : D} {v : V} (r : RV K μ H d v) : RE K μ H (env.set i (some d)) (σ.set i (some v)) := by
  refine ⟨by simp [re.len], fun j e h => ?_⟩
  by_cases hj : i = j
  · subst hj
    have hl : i < env.length := by
      have := (List.getElem?_eq_some_iff.mp h).1
      simpa using this
    rw [List.getElem?_set_self hl] at h
    cases h
    exact ⟨v, List.getElem?_set_self (by rw [← re.len]; exact hl), r⟩
  · rw [List.getElem?_set_ne hj] at h
    rw [List.getElem?_set_ne hj]
    exact re.at_ j e h
end

section
variable {X : Cx} {ca : Ca} {W : XK} {Φ : Nat → List D → M D} {a b c e tg iter : Expr} {es : List Expr} {A B C : E} {As : List E} {pos p2 : Pos} {st : Stmt} {sts rest : List Stmt} {s : S} {ss : List S}
/-! ### targets -/
def Same (is : List Nat) (σ σ' : L2.St) : Prop := σ'.length = σ.length ∧ ∀ i, i ∉ is → σ'[i]? = σ[i]?
theorem Same.trans {is js : List Nat} {σ σ' σ'' : L2.St} (h : Same is σ σ') (k : Same js σ' σ'') : Same (is ++ js) σ σ'' :=
  ⟨k.1.trans h.1, fun i hi => by rw [List.mem_append, not_or] at hi; exact (k.2 i hi.2).trans (h.2 i hi.1)⟩
def TGx (X : Cx) (g : Tg) : TG := fun v σ H Q => ∃ μ env env' d, RE X.K μ H env σ ∧ RV X.K μ H d v ∧ g.put d env = some env' ∧ ∀ σ', RE X.K μ H env' σ' → Same g.ixs σ σ' → Q σ' H
def TGsx (X : Cx) (gs : List Tg) : TGs := fun vs σ H Q => ∃ μ env env' ds, RE X.K μ H env σ ∧ RVs X.K μ H ds vs ∧ Tg.puts gs ds env = some env' ∧ ∀ σ', RE X.K μ H env' σ' → Same (Tg.ixss gs) σ σ' → Q σ' H
theorem _root_.L2.PG.imp {t t' : TG} (h : PG X e t) (k : ∀ v σ H Q, t' v σ H Q → t v σ H Q) : PG X e t' := ⟨fun pins s σ H v u Q I r q => h.run pins s σ H v u Q I r (k v σ H Q q)⟩
theorem _root_.L2.PGs.imp {t t' : TGs} (h : PGs X es t) (k : ∀ v σ H Q, t' v σ H Q → t v σ H Q) : PGs X es t' := ⟨fun pins s σ H v u Q I r q => h.run pins s σ H v u Q I r (k v σ H Q q)⟩
theorem xg_name {i : Nat} {x : Str} (hN : X.N.Nodup) (hi : X.N[i]? = some x) (hx : Loc X.env.scope x) (hf : X.fn x = true ∨ X.env.scope.names.lookup x = some .local) : PG X (.Name x pos) (TGx X (.name i)) :=
  (pg_name hN hi hx hf).imp fun v σ H Q ⟨μ, env, env', d, re, r, h, q⟩ => by
    simp only [Tg.put] at h
    split at h
    · cases h; exact q _ (re.set r) ⟨by simp, fun j hj => List.getElem?_set_ne (fun z => hj (by simp [Tg.ixs, z]))⟩
    · cases h
theorem xgs_nil : PGs X [] (TGsx X []) := pgs_nil.imp fun v σ H Q ⟨μ, env, env', ds, re, r, h, q⟩ => by
  cases ds with
  | nil => cases r; cases h; exact ⟨rfl, q _ re ⟨rfl, fun _ _ => rfl⟩⟩
  | cons d ds => cases h
theorem assign_each : ∀ {es : List Expr} {env : Env}, es.all plainE = true → assignEach es env = es.map fun e => (false, assign e env)
  | [], _, _ => rfl
  | e :: es, env, h => by
    simp only [List.all_cons, Bool.and_eq_true] at h
    have ih := assign_each (env := env) h.2
    have hp := h.1
    cases e <;> first | (simp [plainE] at hp; done) | (rw [List.map_cons, ← ih]; rfl)
theorem xgs_cons {g : Tg} {gs : List Tg} (h1 : PG X e (TGx X g)) (h2 : PGs X es (TGsx X gs)) (hp : (e :: es).all plainE = true) : PGs X (e :: es) (TGsx X (g :: gs)) := by
  have hp' : es.all plainE = true := by simp only [List.all_cons, Bool.and_eq_true] at hp; exact hp.2
  refine (pgs_cons h1 h2 ?_).imp fun v σ H Q ⟨μ, env, env', ds, re, r, h, q⟩ => ?_
  · rw [assign_each hp, assign_each hp']; rfl
  · cases ds with
    | nil => cases h
    | cons d ds =>
      cases r with
      | cons r1 r2 =>
        simp only [Tg.puts] at h
        obtain ⟨env1, e1, e2⟩ := Option.bind_eq_some_iff.mp h
        exact ⟨_, _, rfl, μ, env, env1, d, re, r1, e1, fun σ' re' s1 => ⟨μ, env1, env', ds, re', r2, e2, fun σ2 re2 s2 => q σ2 re2 (by unfold Tg.ixss; exact s1.trans s2)⟩⟩
theorem puts_len : ∀ {gs : List Tg} {ds : List D} {env env' : Sl}, Tg.puts gs ds env = some env' → ds.length = gs.length
  | [], [], _, _, _ => rfl
  | [], _ :: _, _, _, h => by cases h
  | _ :: _, [], _, _, h => by cases h
  | g :: gs, d :: ds, env, env', h => by
    simp only [Tg.puts] at h
    obtain ⟨env1, e1, e2⟩ := Option.bind_eq_some_iff.mp h
    simp [puts_len e2]
theorem xg_tup {gs : List Tg} {k : Nat} (hc : X.calm = true) (h : PGs X es (TGsx X gs)) (hp : es.all plainE = true) (hl : gs.length = es.length) : PG X (.Tuple es k pos) (TGx X (.tup gs)) := by
  refine (pg_tup (n := es.length) hc h (by rw [assign_each hp, List.length_map]) ?_).imp fun v σ H Q ⟨μ, env, env', d, re, r, h, q⟩ => ?_
  · rw [assign_each hp]
    simp
  · cases d with
    | tup ds =>
      cases r with
      | tup hs hr =>
        simp only [Tg.put] at h
        exact ⟨_, _, rfl, hs, by rw [← hr.length, puts_len h, hl], μ, env, env', ds, re, hr, h, fun σ2 re2 s2 => q σ2 re2 (by unfold Tg.ixs; exact s2)⟩
    | _ => cases h

/-! ### statements -/
inductive FlV where
  | nx (σ : L2.St) | rt (v : V) | bk (σ : L2.St) | ct (σ : L2.St)
def RF (K : PySem.W.Frag) (μ : List Addr) (H : Hp) : Fl → FlV → Prop
  | .nx env, .nx σ => RE K μ H env σ
  | .rt d, .rt v => RV K μ H d v
  | .bk env, .bk σ => RE K μ H env σ
  | .ct env, .ct σ => RE K μ H env σ
  | _, _ => False
def toQ (D : Ends) : FlV → Hp → Prop
  | .nx σ, H => D.nx σ H
  | .rt v, H => D.rt v H
  | .bk σ, H => D.bk σ H
  | .ct σ, H => D.ct σ H
def TSx (X : Cx) (ca : Ca) (W : XK) (m : Sl → M Fl) : TS := fun D σ H => rd X.K X.w ca W (RF X.K) m σ H (toQ D)
theorem fl_rt {D : Ends} {μ : List Addr} {H : Hp} {d : Mi.D} {v : V} {st : Sto} (h : Po X.K X.w ca W (RF X.K) μ H (M.pure (.rt d) st) (toQ D)) (rs : RS X.K X.w ca μ st H) (r : RF X.K μ H (.rt d) (.rt v)) : D.rt v H := Po.here (b := FlV.rt v) h rs r
theorem fl_nx {D : Ends} {μ : List Addr} {H : Hp} {env : Sl} {σ : L2.St} {st : Sto} (h : Po X.K X.w ca W (RF X.K) μ H (M.pure (.nx env) st) (toQ D)) (rs : RS X.K X.w ca μ st H) (r : RE X.K μ H env σ) : D.nx σ H := Po.here (b := FlV.nx σ) h rs r
theorem fl_bk {D : Ends} {μ : List Addr} {H : Hp} {env : Sl} {σ : L2.St} {st : Sto} (h : Po X.K X.w ca W (RF X.K) μ H (M.pure (.bk env) st) (toQ D)) (rs : RS X.K X.w ca μ st H) (r : RF X.K μ H (.bk env) (.bk σ)) : D.bk σ H := Po.here (b := FlV.bk σ) h rs r
theorem fl_ct {D : Ends} {μ : List Addr} {H : Hp} {env : Sl} {σ : L2.St} {st : Sto} (h : Po X.K X.w ca W (RF X.K) μ H (M.pure (.ct env) st) (toQ D)) (rs : RS X.K X.w ca μ st H) (r : RF X.K μ H (.ct env) (.ct σ)) : D.ct σ H := Po.here (b := FlV.ct σ) h rs r
theorem xs_nil : PSs X [] (TSx X ca W (denSs Φ [])) := pss_nil.imp fun D σ H ⟨μ, env, st, rs, re, h⟩ => by
  have h : Po X.K X.w ca W (RF X.K) μ H (.ok (.nx env) st) (toQ D) := h
  exact Po.here (b := FlV.nx σ) h rs re
theorem xs_cons (h1 : PS X st (TSx X ca W (denS Φ s))) (h2 : PSs X rest (TSx X ca W (denSs Φ ss))) : PSs X (st :: rest) (TSx X ca W (denSs Φ (s :: ss))) :=
  (pss_cons h1 h2).imp fun D σ H ⟨μ, env, st, rs, re, h⟩ => by
    refine ⟨μ, env, st, rs, re, ?_⟩
    have h : Po X.K X.w ca W (RF X.K) μ H ((denS Φ s env st).bind fun fl => match fl with
      | .nx env' => denSs Φ ss env'
      | .rt d => M.pure (.rt d)
      | .bk env' => M.pure (.bk env')
      | .ct env' => M.pure (.ct env')) (toQ D) := h
    refine Po.bi h fun fl st1 μ1 H1 flv _ x1 rs1 r1 h1 => ?_
    cases fl with
    | nx env1 => cases flv <;> first | exact ⟨μ1, env1, st1, rs1, r1, h1⟩ | exact False.elim r1
    | rt d => cases flv <;> first | exact fl_rt (D := D) h1 rs1 r1 | exact False.elim r1
    | bk env1 => cases flv <;> first | exact fl_bk (D := D) h1 rs1 r1 | exact False.elim r1
    | ct env1 => cases flv <;> first | exact fl_ct (D := D) h1 rs1 r1 | exact False.elim r1
theorem xs_pass : PS X (.Pass pos) (TSx X ca W (denS Φ .pass)) := ps_pass.imp fun D σ H ⟨μ, env, st, rs, re, h⟩ => Po.here (b := FlV.nx σ) h rs re
theorem xs_brk : PS X (.Break pos) (TSx X ca W (denS Φ .brk)) := ps_break.imp fun D σ H ⟨μ, env, st, rs, re, h⟩ => Po.here (b := FlV.bk σ) h rs re
theorem xs_cont : PS X (.Continue pos) (TSx X ca W (denS Φ .cont)) := ps_continue.imp fun D σ H ⟨μ, env, st, rs, re, h⟩ => Po.here (b := FlV.ct σ) h rs re
theorem xs_doc {x j pos pos'} : PS X (.Expr (.Constant (.str x) j pos) pos') (TSx X ca W (denS Φ .pass)) := ps_doc.imp fun D σ H ⟨μ, env, st, rs, re, h⟩ => Po.here (b := FlV.nx σ) h rs re
theorem xs_expr (he : PE X e (TEx X ca W Φ A)) (hs : swapsWith e none pos.line X.env = pure false) : PS X (.Expr e pos) (TSx X ca W (denS Φ (.expr A))) :=
  (ps_expr he hs).imp fun D σ H h => rd_bind (m := den Φ A) h fun μ1 env st1 x H1 vx rs1 re1 r1 h1 => Po.here (b := FlV.nx σ) h1 rs1 re1
theorem xs_ret (he : PE X e (TEx X ca W Φ A)) : PS X (.Return (some e) pos) (TSx X ca W (denS Φ (.ret A))) :=
  (ps_ret he).imp fun D σ H h => rd_bind (m := den Φ A) h fun μ1 env st1 x H1 vx rs1 re1 r1 h1 => Po.here (b := FlV.rt vx) h1 rs1 r1
theorem xs_retN : PS X (.Return none pos) (TSx X ca W (denS Φ .retN)) := ps_retN.imp fun D σ H ⟨μ, env, st, rs, re, h⟩ => Po.here (b := FlV.rt .non) h rs .non
theorem denS_ifs (t : E) (x y : List S) : denS Φ (.ifs t x y) = fun env => M.bind (denB Φ t env) fun c => if c then denSs Φ x env else denSs Φ y env := by
  funext env st
  simp only [denS, denB, M.bind]
  cases den Φ t env st with
  | no => rfl
  | exc c v s => rfl
  | ok d s =>
    cases d <;> first | rfl | skip
    rename_i c
    cases c <;> rfl
theorem xs_if {x y : List Stmt} {sx sy : List S} (hc : PT X c (TBx X ca W Φ C)) (ha : PSs X x (TSx X ca W (denSs Φ sx))) (hb : PSs X y (TSx X ca W (denSs Φ sy))) : PS X (.If c x y pos) (TSx X ca W (denS Φ (.ifs C sx sy))) :=
  (ps_if hc ha hb).imp fun D σ H h => by
    rw [denS_ifs] at h
    refine rd_bind (m := denB Φ C) h fun μ1 env st1 x H1 vx rs1 re1 r1 h1 => ?_
    subst r1
    cases x with
    | true => exact ⟨μ1, env, st1, rs1, re1, h1⟩
    | false => exact ⟨μ1, env, st1, rs1, re1, h1⟩
/-- target = value -/
theorem asg_rd {g : Tg} {D : Ends} {σ : L2.St} {H : Hp} (h : TSx X ca W (denS Φ (.set g A)) D σ H) : tAsg (TEx X ca W Φ A) (TGx X g) D σ H := by
  refine rd_bind (m := den Φ A) h fun μ1 env st1 x H1 vx rs1 re1 r1 h1 => ?_
  cases e : g.put x env with
  | none => rw [e] at h1; exact False.elim h1
  | some env' =>
    rw [e] at h1
    exact ⟨μ1, env, env', x, re1, r1, e, fun σ' re' _ => Po.here (b := FlV.nx σ') h1 rs1 re'⟩
theorem xs_set {g : Tg} (he : PE X e (TEx X ca W Φ A)) (hg : PG X tg (TGx X g)) (hs : swapsWithSole [tg] e pos.line X.env = pure false) (hw : swappedStores [tg] e X.env = pure none) (hp : plainE tg = true) : PS X (.Assign [tg] e pos) (TSx X ca W (denS Φ (.set g A))) :=
  (ps_asg he hg hs hw (by rw [assign_each (by simp [hp])]; rfl)).imp fun D σ H h => asg_rd h
theorem xs_put {o i : Expr} {pt : Pos} {O' I' : E} (hu : X.A.units + 65 < cLine) (ho : PE X o (TEx X ca W Φ O')) (hi : PE X i (TEx X ca W Φ I')) (he : PE X e (TEx X ca W Φ A)) (hsl : ∀ l u p, i ≠ .Slice l u none p)
    (ha : ∀ v, assign (.Subscript o i pt) X.env v = (do
      let ov ← holding [v] (eval o X.env)
      let iv ← holding [v, ov] (eval i X.env)
      standAt pt
      holding [v, ov, iv] (setItem ov iv v)
      release [v, ov, iv] [])) (hs : swapsWithSole [.Subscript o i pt] e pos.line X.env = pure false) (hw : swappedStores [.Subscript o i pt] e X.env = pure none) :
    PS X (.Assign [.Subscript o i pt] e pos) (TSx X ca W (denS Φ (.put O' I' A))) :=
  (ps_asg he (pg_sub ho hi (opr_put (ca := ca) hu) ha) hs hw).imp fun D σ H h => by
    refine rd_bind (m := den Φ A) h fun μ1 env st1 x H1 vx rs1 re1 r1 h1 => ?_
    refine ⟨μ1, env, st1, rs1, re1, Po.bi h1 fun y st2 μ2 H2 vy _ x2 rs2 r2 h2 => ?_⟩
    refine ⟨μ2, env, st2, rs2, re1.mono x2, Po.bi h2 fun z st3 μ3 H3 vz _ x3 rs3 r3 h3 => ?_⟩
    cases e : putD y z x st3 with
    | none => rw [e] at h3; exact False.elim h3
    | some st' =>
      rw [e] at h3
      refine ⟨μ3, st3, y, z, x, st', rs3, r2.mono x3, r3, (r1.mono x2).mono x3, e, fun μ' H' x' rs' => ?_⟩
      exact h3 μ' H' (.nx σ) x' rs' (((re1.mono x2).mono x3).mono x')

/-! ### loops -/
/-- what a loop's body is to reach -/
theorem body_po {D : Ends} {N : L2.St → Hp → Prop} {μ : List Addr} {H : Hp} {o : Out Fl} {f : Fl → M Fl} (h : Po X.K X.w ca W (RF X.K) μ H (o.bind f) (toQ D))
    (hn : ∀ env st1 μ1 H1 σ, (o = .ok (.nx env) st1 ∨ o = .ok (.ct env) st1) → Xt X.K μ H μ1 H1 → RS X.K X.w ca μ1 st1 H1 → RE X.K μ1 H1 env σ → N σ H1) (hb : ∀ env, f (.bk env) = M.pure (.nx env)) (hr : ∀ v, f (.rt v) = M.pure (.rt v)) :
    Po X.K X.w ca W (RF X.K) μ H o (toQ { D with nx := N, ct := N, bk := D.nx }) := by
  refine Po.bi h fun fl st1 μ1 H1 flv e x1 rs1 r1 h1 => ?_
  cases fl with
  | nx env1 => cases flv <;> first | exact hn env1 st1 μ1 H1 _ (.inl e) x1 rs1 r1 | exact False.elim r1
  | ct env1 => cases flv <;> first | exact hn env1 st1 μ1 H1 _ (.inr e) x1 rs1 r1 | exact False.elim r1
  | rt d =>
    rw [hr] at h1
    cases flv <;> first | exact fl_rt (D := D) h1 rs1 r1 | exact False.elim r1
  | bk env1 =>
    rw [hb] at h1
    cases flv <;> first | exact fl_nx (D := D) h1 rs1 r1 | exact False.elim r1
theorem xs_for {it : I} {g : Tg} {body : List Stmt} {bs : List S} (hp : PassesOwn (model X.prog X.w) X.A X.env X.xe) (hc : X.calm = true) (hi : PI X tg iter (TIx X ca W Φ it)) (hg : PG X tg (TGx X g)) (hb : PSs X body (TSx X ca W (denSs Φ bs)))
    (hs : ∀ x, foldedSetIterable iter X.env x = pure x) : PS X (.For tg iter body [] pos) (TSx X ca W (denS Φ (.fors g it bs))) :=
  (ps_for hp hc hi hg hb hs).imp fun D σ H h => by
    refine rd_bind (m := denI Φ it) h fun μ1 env1 st1 t H1 J rs1 re1 hJ h1 => ?_
    refine ⟨fun i m σ H => ∃ μ env st, Xt X.K μ1 H1 μ H ∧ RS X.K X.w ca μ st H ∧ RE X.K μ H env σ ∧ Po X.K X.w ca W (RF X.K) μ H (loopN t.at (fun d env' => match g.put d env' with
      | some env'' => denSs Φ bs env''
      | none => M.no) m i env st) (toQ D), ⟨turns, μ1, env1, st1, .refl, rs1, re1, h1⟩, ?_⟩
    rintro i m σ H ⟨μ, env, st, x, rs, re, h⟩
    cases m with
    | zero => exact False.elim h
    | succ m =>
      have hj := hJ μ st H i x rs
      unfold loopN at h
      cases e : t.at st i with
      | none => rw [e] at h; exact False.elim h
      | some o =>
        rw [e] at h hj
        cases o with
        | none => exact .inl ⟨hj, Po.here (b := FlV.nx σ) h rs re⟩
        | some d =>
          obtain ⟨go, hy⟩ := hj
          refine .inr ⟨go, fun σ' H' => ∃ μ env st, Xt X.K μ1 H1 μ H' ∧ RS X.K X.w ca μ st H' ∧ RE X.K μ H' env σ' ∧ Po X.K X.w ca W (RF X.K) μ H' (loopN t.at (fun d env' => match g.put d env' with
            | some env'' => denSs Φ bs env''
            | none => M.no) m (i + 1) env st) (toQ D), fun σ' H' z => ⟨m, Nat.lt_succ_self m, z⟩, fun v H' y => ?_⟩
          obtain ⟨x2, rs2, rv, _⟩ := hy v H' y
          have h := Po.shift x2 h
          simp only at h
          cases e2 : g.put d env with
          | none => rw [e2] at h; exact False.elim h
          | some env2 =>
            rw [e2] at h
            have h : Po X.K X.w ca W (RF X.K) μ H' ((denSs Φ bs env2 st).bind _) (toQ D) := h
            refine ⟨μ, env, env2, d, re.mono x2, rv, e2, fun σ2 re2 _ => ⟨μ, env2, st, rs2, re2, ?_⟩⟩
            refine body_po h (fun env3 st3 μ3 H3 σ3 e3 x3 rs3 re3 => ?_) (fun _ => rfl) fun _ => rfl
            refine ⟨μ3, env3, st3, (x.trans x2).trans x3, rs3, re3, ?_⟩
            have h := Po.shift x3 h
            rcases e3 with e3 | e3
            · rw [e3] at h; exact h
            · rw [e3] at h; exact h
theorem xs_while {body : List Stmt} {bs : List S} (hp : PassesOwn (model X.prog X.w) X.A X.env X.xe) (hc : PT X c (TBx X ca W Φ C)) (hb : PSs X body (TSx X ca W (denSs Φ bs))) : PS X (.While c body [] pos) (TSx X ca W (denS Φ (.whiles C bs))) :=
  (ps_while hp hc hb).imp fun D σ H ⟨μ, env, st, rs, re, h⟩ => by
    have h : Po X.K X.w ca W (RF X.K) μ H (whileN (denB Φ C) (denSs Φ bs) turns env st) (toQ D) := h
    refine ⟨fun m σ H => ∃ μ env st, RS X.K X.w ca μ st H ∧ RE X.K μ H env σ ∧ Po X.K X.w ca W (RF X.K) μ H (whileN (denB Φ C) (denSs Φ bs) m env st) (toQ D), ⟨turns, μ, env, st, rs, re, h⟩, ?_⟩
    rintro m σ H ⟨μ, env, st, rs, re, h⟩
    cases m with
    | zero => exact False.elim h
    | succ m =>
      unfold whileN at h
      refine ⟨μ, env, st, rs, re, Po.bi h fun k st1 μ1 H1 kb _ x1 rs1 r1 h1 => ?_⟩
      subst r1
      cases k with
      | false => exact Po.here (b := FlV.nx σ) h1 rs1 (re.mono x1)
      | true =>
        rw [if_pos rfl] at h1
        simp only [if_true]
        refine ⟨fun σ' H' => ∃ μ env st, RS X.K X.w ca μ st H' ∧ RE X.K μ H' env σ' ∧ Po X.K X.w ca W (RF X.K) μ H' (whileN (denB Φ C) (denSs Φ bs) m env st) (toQ D), fun σ' H' z => ⟨m, Nat.lt_succ_self m, z⟩,
          μ1, env, st1, rs1, re.mono x1, ?_⟩
        refine body_po h1 (fun env3 st3 μ3 H3 σ3 e3 x3 rs3 re3 => ?_) (fun _ => rfl) fun _ => rfl
        refine ⟨μ3, env3, st3, rs3, re3, ?_⟩
        have h := Po.shift x3 h1
        rcases e3 with e3 | e3
        · simp only [M.bind, e3] at h; exact h
        · simp only [M.bind, e3] at h; exact h
end
end Mi

set_option Elab.async false
set_option linter.all false
set_option maxRecDepth 100000
set_option maxHeartbeats 1000000
/-! Mi, part K: list comprehensions. -/
namespace Mi
open PySem PySem.Spec PyProof.Rows L2

/-- no exception gets out -/
def calmO {α : Type} (o : Out α) : Out α := match o with
  | .ok a s => .ok a s
  | _ => .no
theorem calm_eq {α : Type} (m : M α) (st : Sto) : calm m st = calmO (m st) := by
  unfold calm calmO
  cases m st <;> rfl
def W0 : XK := fun _ _ _ => False
section
variable {K : PySem.W.Frag} {w : World} {ca : Ca} {μ μ' : List Addr} {H H' : Hp} {α β γ : Type} {R : List Addr → Hp → α → β → Prop}
theorem Po.cb {G : Out γ → Prop} (hno : ¬ G .no) (hex : ∀ c v s, ¬ G (.exc c v s)) {o : Out α} {f : α → M γ} {Q1 : β → Hp → Prop} (h : G (o.bind f))
    (k : ∀ a st1 μ1 H1 b, o = .ok a st1 → Xt K μ H μ1 H1 → RS K w ca μ1 st1 H1 → R μ1 H1 a b → G (f a st1) → Q1 b H1) : Po K w ca W0 R μ H o Q1 := by
  cases o with
  | ok a st => exact fun μ2 H2 b y rs r => k a st μ2 H2 b rfl y rs r h
  | exc c v st => exact (hex _ _ _ h).elim
  | no => exact (hno h).elim
/-- a list beside the store is written -/
theorem side_tup {d : Addr} {vs vs' : List V} (hd : H d = some (.lst vs)) {a : Addr} {us : List V} (h : SqT K H a us) : SqT K (upd H d (.lst vs')) a us := by
  rcases h with (h | ⟨u, h⟩) | h
  · exact .inl (.inl (by rw [upd_ne (fun z => by rw [z, hd] at h; cases h)]; exact h))
  · exact .inl (.inr ⟨u, by rw [upd_ne (fun z => by rw [z, hd] at h; cases h)]; exact h⟩)
  · exact .inr h
theorem side_frz {d : Addr} {vs vs' : List V} (hd : H d = some (.lst vs)) {a : Addr} {us : List V} (h : SqF K H a us) : SqF K (upd H d (.lst vs')) a us := sqf_plain hd plain_lst h
theorem Wd.side {d : Addr} {vs vs' : List V} (hd : H d = some (.lst vs)) : Wd K μ H μ (upd H d (.lst vs')) := ⟨fun _ _ z => z, fun _ _ h => side_tup hd h, fun _ _ h => side_frz hd h⟩
theorem RS.side {st : Sto} {d : Addr} {vs vs' : List V} (rs : RS K w ca μ st H) (hm : d ∉ μ) (hd : H d = some (.lst vs)) : RS K w ca μ st (upd H d (.lst vs')) := by
  refine ⟨rs.len, rs.nd, fun n o a e1 e2 => ?_, tabs_upd rs.tab hd plain_lst⟩
  have r0 := rs.at_ n o a e1 e2
  have hne : a ≠ d := fun z => hm (z ▸ List.mem_of_getElem? e2)
  have t : Wd K μ H μ (upd H d (.lst vs')) := Wd.side hd
  cases o with
  | lst xs => obtain ⟨us, e, q⟩ := r0; exact ⟨us, by rw [upd_ne hne]; exact e, q.wid t⟩
  | dic kvs ep => obtain ⟨es, e, a1, a2, a3, q⟩ := r0; exact ⟨es, by rw [upd_ne hne]; exact e, a1, a2, a3, Paired.map2 q fun _ _ z => z.wid t⟩
  | exc c v =>
    obtain ⟨dx, y, e, a1, a2, q⟩ := r0
    exact ⟨dx, y, by rw [upd_ne hne]; exact e, by rw [upd_ne (fun z => by rw [z, hd] at a1; cases a1)]; exact a1, a2, q.wid t⟩
theorem Xt.side {μ1 : List Addr} {H1 : Hp} {d : Addr} {vs vs' : List V} (x : Xt K μ1 H1 μ H) (h1 : H1 d = none) (hd : H d = some (.lst vs)) : Xt K μ1 H1 μ (upd H d (.lst vs')) :=
  ⟨x.pre, fun a o e n nt => by rw [upd_ne (ne_of_none e h1)]; exact x.keep a o e n nt, fun a us h => side_tup hd (x.tup a us h), fun a us h => side_frz hd (x.frz a us h)⟩
theorem RVs.side {d : Addr} {vs vs' : List V} (hd : H d = some (.lst vs)) {xs : List D} {us : List V} (r : RVs K μ H xs us) : RVs K μ (upd H d (.lst vs')) xs us := r.wid (Wd.side hd)
theorem RV.side {d : Addr} {vs vs' : List V} (hd : H d = some (.lst vs)) {x : D} {u : V} (r : RV K μ H x u) : RV K μ (upd H d (.lst vs')) x u := r.wid (Wd.side hd)
theorem Xt.stays (x : Xt K μ H μ' H') {d : Addr} {vs : List V} (hm : d ∉ μ) (hd : H d = some (.lst vs)) : H' d = some (.lst vs) ∧ d ∉ μ' :=
  ⟨x.keep d _ hd hm (fun _ z => HO.noConfusion z), x.out hd (fun _ z => HO.noConfusion z) hm⟩
end

/-! ### wiped slots -/
theorem wipe_len (env : Sl) : ∀ vs, (wipe env vs).length = env.length
  | [] => rfl
  | v :: vs => by unfold wipe; rw [List.length_set, wipe_len env vs]
theorem wipe_get {env : Sl} {i : Nat} {d : D} : ∀ {vs : List Nat}, (wipe env vs)[i]? = some (some d) → env[i]? = some (some d) ∧ i ∉ vs
  | [], h => ⟨h, by simp⟩
  | v :: vs, h => by
    unfold wipe at h
    by_cases hi : v = i
    · subst hi
      by_cases hv : v < (wipe env vs).length
      · rw [List.getElem?_set_self hv] at h; cases h
      · rw [List.getElem?_eq_none (by simpa using hv)] at h; cases h
    · rw [List.getElem?_set_ne hi] at h
      obtain ⟨h1, h2⟩ := wipe_get h
      exact ⟨h1, by simp only [List.mem_cons, not_or]; exact ⟨fun e => hi e.symm, h2⟩⟩
theorem wipeS_out {σ : L2.St} {i : Nat} : ∀ {vs : List Nat}, i ∉ vs → (L2.wipe σ vs)[i]? = σ[i]? := fun {vs} h => L2.wipe_out h
theorem wipeS_in {σ : L2.St} {i : Nat} (hl : i < σ.length) : ∀ {vs : List Nat}, i ∈ vs → (L2.wipe σ vs)[i]? = some none
  | [], h => by simp at h
  | v :: vs, h => by
    unfold L2.wipe
    by_cases hi : v = i
    · subst hi
      exact List.getElem?_set_self (by rw [L2.wipe_length]; exact hl)
    · rw [List.getElem?_set_ne hi]
      exact wipeS_in hl ((List.mem_cons.mp h).resolve_left fun z => hi z.symm)
theorem wipe_same {σ σ2 : L2.St} {is vs : List Nat} (h : Same is (L2.wipe σ vs) σ2) (hs : ∀ i ∈ is, i ∈ vs) : L2.wipe σ2 vs = L2.wipe σ vs := by
  refine List.ext_getElem? fun i => ?_
  have hl : σ2.length = σ.length := by rw [h.1, L2.wipe_length]
  by_cases hi : i ∈ vs
  · by_cases hb : i < σ.length
    · rw [wipeS_in (by rw [hl]; exact hb) hi, wipeS_in hb hi]
    · rw [List.getElem?_eq_none (by rw [L2.wipe_length, hl]; omega), List.getElem?_eq_none (by rw [L2.wipe_length]; omega)]
  · rw [wipeS_out hi, h.2 i fun z => hi (hs i z)]
theorem RE.wipe {K : PySem.W.Frag} {μ : List Addr} {H : Hp} {env : Sl} {σ : L2.St} (re : RE K μ H env σ) (vs : List Nat) : RE K μ H (Mi.wipe env vs) (L2.wipe σ vs) := by
  refine ⟨by rw [wipe_len, L2.wipe_length]; exact re.len, fun i d e => ?_⟩
  obtain ⟨e1, e2⟩ := wipe_get e
  rw [wipeS_out e2]
  exact re.at_ i d e1

section
variable {X : Cx} {ca : Ca} {W : XK} {Φ : Nat → List D → M D} {tg iter elt : Expr} {ifs : List Expr} {T : E} {ts : List E} {it : I} {g : Tg} {vs : List Nat} {pos p2 : Pos}
theorem comp_rd (hg : ∀ i ∈ g.ixs, i ∈ vs) {σ : L2.St} {H : Hp} {Q : VK} (h : TEx X ca W Φ (.comp g vs it ts T) σ H Q) : tLc (TIx X ca W Φ it) (TGx X g) (TTx X ca W0 Φ ts) (TEx X ca W0 Φ T) vs σ H Q := by
  unfold tLc
  refine rd_bind (m := denI Φ it) h fun μ1 env1 st1 t H1 J rs1 re1 hJ h1 => ?_
  intro dA hdA
  obtain ⟨turn, hturn⟩ : ∃ turn : D → M (Option D), turn = fun d => match g.put d (Mi.wipe env1 vs) with
      | none => M.no
      | some env' => M.bind (denT Φ ts env') fun b => if b then M.bind (den Φ T env') fun x => M.pure (some x) else M.pure none := ⟨_, rfl⟩
  have h1 : Po X.K X.w ca W (RV X.K) μ1 H1 ((calm (compN t.at turn turns 0 []) st1).bind newL) Q := by rw [hturn]; exact h1
  rw [calm_eq] at h1
  refine ⟨fun i m H => ∃ μ st acc us, Xt X.K μ1 H1 μ H ∧ RS X.K X.w ca μ st H ∧ dA ∉ μ ∧ H dA = some (.lst us) ∧ RVs X.K μ H acc us ∧ Po X.K X.w ca W (RV X.K) μ1 H1 ((calmO (compN t.at turn m i acc st)).bind newL) Q,
    ⟨turns, μ1, st1, [], [], .new hdA, rs1.new hdA, rs1.fresh hdA, upd_same, .nil, h1⟩, ?_⟩
  rintro i m H ⟨μ, st, acc, us, x, rs, hm, hd, ra, h⟩
  cases m with
  | zero => exact False.elim h
  | succ m =>
    have hj := hJ μ st H i x rs
    unfold compN at h
    cases e : t.at st i with
    | none => rw [e] at h; exact False.elim h
    | some o =>
      rw [e] at h hj
      cases o with
      | none =>
        refine .inl ⟨hj, ?_⟩
        have h : Po X.K X.w ca W (RV X.K) μ1 H1 (newL acc st) Q := h
        unfold newL at h
        split at h
        · rename_i hl
          refine h (μ ++ [dA]) H (.ref dA) (x.adopt hdA) (rs.adopt hm (fun fs z => by rw [hd] at z; cases z) ⟨us, hd, ra.wid (Wd.snoc dA)⟩) (.ref ?_)
          rw [← rs.len, List.getElem?_append_right (Nat.le_refl _)]; simp
        · exact False.elim h
      | some d =>
        obtain ⟨go, hy⟩ := hj
        refine .inr ⟨go, fun H' => ∃ μ st acc us, Xt X.K μ1 H1 μ H' ∧ RS X.K X.w ca μ st H' ∧ dA ∉ μ ∧ H' dA = some (.lst us) ∧ RVs X.K μ H' acc us ∧ Po X.K X.w ca W (RV X.K) μ1 H1 ((calmO (compN t.at turn m (i + 1) acc st)).bind newL) Q,
          fun H' z => ⟨m, Nat.lt_succ_self m, z⟩, fun v H' y => ?_⟩
        obtain ⟨x2, rs2, rv, kp⟩ := hy v H' y
        have hd2 := kp dA _ hd
        simp only at h
        rw [hturn] at h
        simp only at h
        rw [← hturn] at h
        cases e2 : g.put d (Mi.wipe env1 vs) with
        | none => rw [e2] at h; exact False.elim h
        | some env2 =>
          rw [e2] at h
          have re3 : RE X.K μ H' (Mi.wipe env1 vs) (L2.wipe σ vs) := ((re1.wipe vs).mono x).mono x2
          refine ⟨μ, _, env2, d, re3, rv, e2, fun σ2 re2 sm => ⟨wipe_same sm hg, μ, env2, st, rs2, re2, ?_⟩⟩
          have x3 := x.trans x2
          obtain ⟨nxt, hnxt⟩ : ∃ nxt : Option D → M (List D), nxt = fun o => match o with
            | none => compN t.at turn m (i + 1) acc
            | some x => if acc.length < lim then compN t.at turn m (i + 1) (acc ++ [x]) else M.no := ⟨_, rfl⟩
          obtain ⟨G, hG⟩ : ∃ G : Out (Option D) → Prop, G = fun o => Po X.K X.w ca W (RV X.K) μ1 H1 ((calmO (o.bind nxt)).bind newL) Q := ⟨_, rfl⟩
          have hno : ¬ G .no := by rw [hG]; exact fun z => z
          have hex : ∀ c v s, ¬ G (.exc c v s) := by rw [hG]; exact fun _ _ _ z => z
          have h : G ((denT Φ ts env2 st).bind fun b => if b then M.bind (den Φ T env2) fun x => M.pure (some x) else M.pure none) := by rw [hG, hnxt]; exact h
          refine Po.cb (G := G) (K := X.K) (R := fun _ _ b c => b = c) hno hex h fun b st4 μ4 H4 b' _ x4 rs4 r4 h4 => ?_
          subst r4
          obtain ⟨hd4, hm4⟩ := x4.stays hm hd2
          have x14 := x3.trans x4
          have ra4 := (ra.mono x2).mono x4
          cases b with
          | false =>
            rw [hG, hnxt] at h4
            exact ⟨μ4, st4, acc, us, x14, rs4, hm4, hd4, ra4, h4⟩
          | true =>
            simp only [if_true] at h4 ⊢
            refine ⟨μ4, env2, st4, rs4, re2.mono x4, ?_⟩
            refine Po.cb (G := fun o : Out D => G (o.bind fun x => M.pure (some x))) (f := M.pure) (K := X.K) (R := RV X.K) hno hex ?_ fun y st5 μ5 H5 vy _ x5 rs5 r5 h5 => ?_
            · have e5 : (den Φ T env2 st4).bind M.pure = den Φ T env2 st4 := by cases den Φ T env2 st4 <;> rfl
              rw [e5]; exact h4
            · obtain ⟨hd5, hm5⟩ := x5.stays hm4 hd4
              rw [hG, hnxt] at h5
              have h5 : Po X.K X.w ca W (RV X.K) μ1 H1 ((calmO ((if acc.length < lim then compN t.at turn m (i + 1) (acc ++ [y]) else M.no) st5)).bind newL) Q := h5
              split at h5
              · rename_i hl
                rw [lim_eq, ra4.length] at hl
                refine ⟨us, hd5, hl, μ5, st5, acc ++ [y], us ++ [vy], (x14.trans x5).side hdA hd5, rs5.side hm5 hd5, hm5, upd_same, ((ra4.mono x5).side hd5).append (.cons (r5.side hd5) .nil), h5⟩
              · exact False.elim h5
theorem xe_comp {scope : Scope} {own : List (Str × Nat)} (hc : X.calm = true) (hN : X.N.Nodup) (hi : PI X tg iter (TIx X ca W Φ it)) (ok : BlkOk X.N X.env.scope scope own) (hvs : own.map (·.2) = vs) (hgs : ∀ i ∈ g.ixs, i ∈ vs)
    (hg : ∀ (s : Shared) (H : Hp) (C : Addr) (cl : List (Str × Addr)) (fp : List Addr), PG (X.blk s H scope (compEnvC scope cl C X.env) fp) tg (TGx X g)) (ht : ∀ (s : Shared) (H : Hp) (C : Addr) (cl : List (Str × Addr)) (fp : List Addr), PTs (X.blk s H scope (compEnvC scope cl C X.env) fp) ifs (TTx X ca W0 Φ ts))
    (he : ∀ (s : Shared) (H : Hp) (C : Addr) (cl : List (Str × Addr)) (fp : List Addr), PE (X.blk s H scope (compEnvC scope cl C X.env) fp) elt (TEx X ca W0 Φ T)) (hs : ∀ x, foldedSetIterable iter X.env x = pure x) :
    PE X (.ListComp elt [⟨tg, iter, ifs, 0⟩] scope pos) (TEx X ca W Φ (.comp g vs it ts T)) := by
  subst hvs
  exact (pe_lc hc hN hi ok hg ht he hs).imp fun σ H Q h => comp_rd hgs h
theorem xs_setComp {i : Nat} {y : Str} {py spos : Pos} {scope : Scope} {own : List (Str × Nat)} (hc : X.calm = true) (hN : X.N.Nodup) (hy : X.N[i]? = some y) (hyl : X.env.scope.names.lookup y = some .local)
    (hsw : swapsWith (.ListComp elt [⟨tg, iter, ifs, 0⟩] scope pos) (some (.Name y py)) spos.line X.env = pure true) (hi : PI X tg iter (TIx X ca W Φ it)) (ok : BlkOk X.N X.env.scope scope own) (hvs : own.map (·.2) = vs) (hgs : ∀ i ∈ g.ixs, i ∈ vs)
    (hg : ∀ (s : Shared) (H : Hp) (C : Addr) (cl : List (Str × Addr)) (fp : List Addr), PG (X.blk s H scope (compEnvC scope cl C X.env) fp) tg (TGx X g)) (ht : ∀ (s : Shared) (H : Hp) (C : Addr) (cl : List (Str × Addr)) (fp : List Addr), PTs (X.blk s H scope (compEnvC scope cl C X.env) fp) ifs (TTx X ca W0 Φ ts))
    (he : ∀ (s : Shared) (H : Hp) (C : Addr) (cl : List (Str × Addr)) (fp : List Addr), PE (X.blk s H scope (compEnvC scope cl C X.env) fp) elt (TEx X ca W0 Φ T)) (hs : ∀ x, foldedSetIterable iter X.env x = pure x) :
    PS X (.Assign [.Name y py] (.ListComp elt [⟨tg, iter, ifs, 0⟩] scope pos) spos) (TSx X ca W (denS Φ (.set (.name i) (.comp g vs it ts T)))) := by
  subst hvs
  refine (ps_setLc hc hN hy hyl hsw hi ok hg ht he hs).imp fun D σ H h => ?_
  refine comp_rd hgs (Q := fun x H1 => gName i x σ H1 D.nx) ?_
  refine rd_bind (m := den Φ _) h fun μ1 env st1 x H1 vx rs1 re1 r1 h1 => ?_
  simp only [Tg.put] at h1
  by_cases hl : i < env.length
  · rw [if_pos hl] at h1
    exact fl_nx (D := D) h1 rs1 (re1.set r1)
  · rw [if_neg hl] at h1
    exact False.elim h1
end
end Mi

set_option Elab.async false
set_option linter.all false
set_option maxRecDepth 100000
set_option maxHeartbeats 1000000
/-! Mi, part L: calls of defs. -/
namespace Mi
open PySem PySem.Spec PyProof.Rows L2

/-! ### what a call made and nobody sees -/
section
variable {K : PySem.W.Frag} {w : World} {ca : Ca} {μ t : List Addr} {H H' : Hp} {st st' : Sto} {W : XK}
mutual
theorem RV.low {H0 : Hp} : ∀ {d : D} {v v0 : V}, RV K μ H0 d v0 → RV K (μ ++ t) H d v → RV K μ H d v
  | _, _, _, .non, .non => .non
  | _, _, _, .bl b, .bl _ => .bl b
  | _, _, _, .int i, .int _ => .int i
  | _, _, _, .str s, .str _ => .str s
  | _, _, _, .tup _ h0, .tup h hs => .tup h (RVs.low h0 hs)
  | _, _, _, .frz _ h0, .frz h hs => .frz h (RVs.low h0 hs)
  | _, _, _, .ref h0, .ref h => .ref (by rw [List.getElem?_append_left (List.getElem?_eq_some_iff.mp h0).1] at h; exact h)
theorem RVs.low {H0 : Hp} : ∀ {ds : List D} {vs vs0 : List V}, RVs K μ H0 ds vs0 → RVs K (μ ++ t) H ds vs → RVs K μ H ds vs
  | _, _, _, .nil, .nil => .nil
  | _, _, _, .cons h0 h0s, .cons h hs => .cons (RV.low h0 h) (RVs.low h0s hs)
end
mutual
theorem RV.flat : ∀ {d : D} {v : V}, d.flat = true → RV K (μ ++ t) H d v → RV K μ H d v
  | _, _, _, .non => .non
  | _, _, _, .bl b => .bl b
  | _, _, _, .int i => .int i
  | _, _, _, .str s => .str s
  | _, _, f, .tup h hs => .tup h (RVs.flat (by simpa [D.flat] using f) hs)
  | _, _, f, .frz h hs => .frz h (RVs.flat (by simpa [D.flat] using f) hs)
  | _, _, f, .ref h => by simp [D.flat] at f
theorem RVs.flat : ∀ {ds : List D} {vs : List V}, D.flats ds = true → RVs K (μ ++ t) H ds vs → RVs K μ H ds vs
  | _, _, _, .nil => .nil
  | _, _, f, .cons h hs => by
    simp only [D.flats, Bool.and_eq_true] at f
    exact .cons (RV.flat f.1 h) (RVs.flat f.2 hs)
end
theorem EntR.low {H0 : Hp} {p : D × D} {e e0 : DictEntry} (h0 : EntR K w μ H0 p e0) (h : EntR K w (μ ++ t) H p e) : EntR K w μ H p e :=
  ⟨h.hash, h.ok, let ⟨k, a, b⟩ := h.key; let ⟨k0, _, b0⟩ := h0.key; ⟨k, a, b0.low b⟩, let ⟨k, a, b⟩ := h.val; let ⟨k0, _, b0⟩ := h0.val; ⟨k, a, b0.low b⟩⟩
theorem EntR.flat {p : D × D} {e : DictEntry} (f1 : p.1.flat = true) (f2 : p.2.flat = true) (h : EntR K w (μ ++ t) H p e) : EntR K w μ H p e :=
  ⟨h.hash, h.ok, let ⟨k, a, b⟩ := h.key; ⟨k, a, b.flat f1⟩, let ⟨k, a, b⟩ := h.val; ⟨k, a, b.flat f2⟩⟩
theorem paired_low {H0 : Hp} : ∀ {kvs : List (D × D)} {l l0 : List DictEntry}, Paired (EntR K w μ H0) kvs l0 → Paired (EntR K w (μ ++ t) H) kvs l → Paired (EntR K w μ H) kvs l
  | _, _, _, .nil, .nil => .nil
  | _, _, _, .cons a0 b0, .cons a b => .cons (a0.low a) (paired_low b0 b)
theorem paired_flat : ∀ {kvs : List (D × D)} {l : List DictEntry}, D.flats (kvs.map (·.1)) = true → D.flats (kvs.map (·.2)) = true → Paired (EntR K w (μ ++ t) H) kvs l → Paired (EntR K w μ H) kvs l
  | _, _, _, _, .nil => .nil
  | _, _, f1, f2, .cons a b => by
    simp only [List.map_cons, D.flats, Bool.and_eq_true] at f1 f2
    exact .cons (a.flat f1.1 f2.1) (paired_flat f1.2 f2.2 b)
theorem RO.low {H0 : Hp} {o : O} {a : Addr} (h0 : RO K w ca μ H0 o a) (h : RO K w ca (μ ++ t) H o a) : RO K w ca μ H o a := by
  cases o with
  | lst xs => obtain ⟨_, _, r0⟩ := h0; obtain ⟨vs, e, r⟩ := h; exact ⟨vs, e, r0.low r⟩
  | dic kvs ep => obtain ⟨_, _, _, _, _, r0⟩ := h0; obtain ⟨es, e, a1, a2, a3, r⟩ := h; exact ⟨es, e, a1, a2, a3, paired_low r0 r⟩
  | exc c v => obtain ⟨_, _, _, _, _, r0⟩ := h0; obtain ⟨dx, x, e, a1, a2, r⟩ := h; exact ⟨dx, x, e, a1, fun z => a2 (List.mem_append_left _ z), r0.low r⟩
theorem RO.flat {o : O} {a : Addr} (f : o.flat = true) (h : RO K w ca (μ ++ t) H o a) : RO K w ca μ H o a := by
  cases o with
  | lst xs => obtain ⟨vs, e, r⟩ := h; exact ⟨vs, e, r.flat f⟩
  | dic kvs ep =>
    obtain ⟨es, e, a1, a2, a3, r⟩ := h
    simp only [O.flat, Bool.and_eq_true] at f
    exact ⟨es, e, a1, a2, a3, paired_flat f.1 f.2 r⟩
  | exc c v => obtain ⟨dx, x, e, a1, a2, r⟩ := h; exact ⟨dx, x, e, a1, fun z => a2 (List.mem_append_left _ z), r.flat f⟩
theorem RS.tidy (rs : RS K w ca μ st H) (rs' : RS K w ca (μ ++ t) st' H') (h : sameBut st.length st st' = true) : RS K w ca μ (st'.take st.length) H' := by
  unfold sameBut at h
  simp only [Bool.and_eq_true, decide_eq_true_eq, List.all_eq_true, List.mem_range, Bool.or_eq_true] at h
  obtain ⟨hl, hs⟩ := h
  refine ⟨by rw [List.length_take, Nat.min_eq_left hl, rs.len], rs.nd, fun n o a e1 e2 => ?_, rs'.tab⟩
  have hn : n < st.length := by rw [← rs.len]; exact (List.getElem?_eq_some_iff.mp e2).1
  rw [List.getElem?_take_of_lt hn] at e1
  have e3 : (μ ++ t)[n]? = some a := by rw [List.getElem?_append_left (List.getElem?_eq_some_iff.mp e2).1]; exact e2
  have r := rs'.at_ n o a e1 e3
  rcases hs n hn with z | z
  · rw [z] at e1
    exact (rs.at_ n o a e1 e2).low r
  · rw [e1] at z
    exact r.flat z
theorem Xt.tidy (x : Xt K μ H (μ ++ t) H') : Xt K μ H μ H' := ⟨⟨[], by simp, by simp⟩, x.keep, x.tup, x.frz⟩
theorem Po.tidy {o : Out D} {Q : VK} (rs : RS K w ca μ st H) (h : Po K w ca W (RV K) μ H (Mi.tidy st o) Q) : Po K w ca W (RV K) μ H o Q := by
  cases o with
  | no => exact h
  | ok v st1 =>
    intro μ' H' b x rs' r
    unfold Mi.tidy at h
    simp only at h
    split at h
    · rename_i hc
      rw [Bool.and_eq_true] at hc
      obtain ⟨t, e, ht⟩ := id x.pre
      subst e
      exact h μ H' b x.tidy (rs.tidy rs' hc.2) (r.flat hc.1)
    · exact h μ' H' b x rs' r
  | exc c v st1 =>
    intro μ' H' dx y x rs' hd hn r
    unfold Mi.tidy at h
    simp only at h
    split at h
    · rename_i hc
      rw [Bool.and_eq_true] at hc
      obtain ⟨t, e, ht⟩ := id x.pre
      subst e
      exact h μ H' dx y x.tidy (rs.tidy rs' hc.2) hd (fun z => hn (List.mem_append_left _ z)) (r.flat hc.1)
    · exact h μ' H' dx y x rs' hd hn r
end

/-! ### a def's promise -/
structure FnG (P : Program) (w : World) (K : PySem.W.Frag) (mg : Str → Option Value) (base : Heap) (k : Nat) (f : Addr) (fd : FuncData) (ps : List Str) (sp : Sp) : Prop where
  len : ∀ vs H Q E, sp vs H Q E → vs.length = ps.length
  run : ∀ (A : Around) (outer : List Env) (s : Shared) (H : Hp) (args : Args) (us : List Value) (vs : List V) (Q : VK) (E : XK), A.guards = some [] → Room k A → Env0 P w K mg base A outer s H → BindsTo s fd args (ps.zip us) → Vals vs us → sp vs H Q E →
    codeAny (model P w) A (.call (.ref f) args) (CR (L2.CX P w) outer P w H s Q E) s
/-- .. of the pure language: the def is the m-th -/
def spG (K : PySem.W.Frag) (w : World) (ca : Ca) (m : List D → M D) : Sp := fun vs H Q E => ∃ μ st ds, RS K w ca μ st H ∧ RVs K μ H ds vs ∧ Po K w ca E (RV K) μ H (m ds st) Q
section
variable {X : Cx} {ca : Ca} {W : XK} {Φ : Nat → List D → M D} {k i : Nat} {f : Addr} {fd : FuncData} {ps : List Str} {sp : Sp} {x : Str} {p2 pos : Pos} {e : Expr} {es : List Expr} {As : List E}
theorem run_fnG {pins : List (Addr × Obj)} {σ : L2.St} {H : Hp} {s : Shared} {Q : VK} {us : List Value} {vs : List V} (F : FnG X.prog X.w X.K X.mg X.base k f fd ps sp) (hg : X.A.guards = some []) (hr : Room k X.A) (hb : Binds X.K fd ps []) (tk : Takes X (fun c d _ H => W c d H))
    (I : Inv X pins σ H s) (r : Vals vs us) (h : sp vs H Q W) : wpAny (model X.prog X.w) X.A (call (.ref f) us) (EP X pins σ Q) X.xe s := by
  have hl : us.length = ps.length := by rw [← r.length]; exact F.len _ _ _ _ h
  have b := hb s us I.kIn (by rw [List.append_nil]; exact hl)
  rw [List.append_nil] at b
  refine wpAny_call (codeAny_mono (F.run X.A X.stack s H ⟨us, []⟩ us vs Q W hg hr I.env0 b r h) fun r s' hq => ?_)
  cases r with
  | error e => exact tk e s' (XE.of_call I (fun _ _ _ h => h) hq)
  | ok fl =>
    cases fl with
    | ret u => exact I.after hq
    | next => exact False.elim hq
    | brk => exact False.elim hq
    | cont => exact False.elim hq
theorem xe_call (F : FnG X.prog X.w X.K X.mg X.base k f fd ps (spG X.K X.w ca (Φ i))) (hu : X.A.guards = some []) (hr : Room k X.A) (hg : Gl X x) (hm : X.mg x = some (.ref f)) (hk : PySem.W.keepIn X.K (.ref f) = true) (hb : Binds X.K fd ps []) (tk : Takes X (fun c d _ H => W c d H))
    (ha : PA X (e :: es) (TAx X ca W Φ As)) (hdb : (x == ("__debug__" : Str)) = false) (hp : (e :: es).all plainE = true) : PE X (.Call (.Name x p2) (e :: es) [] pos) (TEx X ca W Φ (.call i As)) := by
  simp only [List.all_cons, Bool.and_eq_true] at hp
  refine ⟨fun pins s σ H Q I h => ?_⟩
  refine wpAny_Call_Name_kw (ld_glob I hg hm ?_ hdb)
  refine PySem.W.callWith_K (h₀ := X.base) I.ok.mod.kin hk (thn (ha.run pos pins s σ H (fun vs H1 => spG X.K X.w ca (Φ i) vs H1 Q W) I ?_) fun us s1 ⟨vs, H1, I1, r, q⟩ => ⟨I1.kIn, ?_⟩) (star_cons hp.1) (star_none hp.2)
  · exact rd_bind (m := dens Φ As) h fun μ1 env st1 xs H1 vs rs1 re1 r1 h1 => ⟨μ1, st1, xs, rs1, r1, h1⟩
  · exact run_fnG F hu hr hb tk I1 r q

/-- a def without arguments -/
theorem xe_call0 (F : FnG X.prog X.w X.K X.mg X.base k f fd ps (spG X.K X.w ca (Φ i))) (hu : X.A.guards = some []) (hr : Room k X.A) (hg : Gl X x) (hm : X.mg x = some (.ref f)) (hk : PySem.W.keepIn X.K (.ref f) = true) (hb : Binds X.K fd ps []) (tk : Takes X (fun c d _ H => W c d H))
    (hdb : (x == ("__debug__" : Str)) = false) : PE X (.Call (.Name x p2) [] [] pos) (TEx X ca W Φ (.call i [])) := by
  refine ⟨fun pins s σ H Q I ⟨μ, env, st, rs, re, h⟩ => ?_⟩
  refine wpAny_Call_Name_kw (ld_glob I hg hm ?_ hdb)
  exact PySem.W.callWith_K0 I.kIn hk (run_fnG (us := []) F hu hr hb tk I .nil ⟨μ, st, [], rs, .nil, h⟩)
end

/-! ### THE RULE: a def, by its body -/
theorem fnG_of {P : Program} {w : World} {K : PySem.W.Frag} {mg : Str → Option Value} {base : Heap} {k : Nat} {f : Addr} {name qual : Str} {params : Arguments} {body : List Stmt} {scope : Scope} {dV kV doc pm cdv ct oc : Value} {an od : Option Addr}
    {osl : Array (Option Value)} {N ps : List Str} {ca : Ca} {FT : List Fn} {d i : Nat} {fn : Fn} (lk : K.lookup f = some ⟨oc, od, .func (PySem.W.fnOf name qual params body scope dV kV doc pm an cdv ct), osl⟩) (hcd : PySem.W.codeIn K cdv qual = true) (S : FnScope N ps scope)
    (hi : FT[i]? = some fn) (hnp : fn.np = ps.length) (hnl : fn.nl = N.length)
    (hbody : ∀ (A : Around) (outer : List Env) (s : Shared) (H : Hp) (E : XK), A.guards = some [] → Room k (A.deeper (envOfC qual scope s.heap.objs.size f cdv)) →
      PSs (cxOf (L2.CX P w) P w K mg base N qual scope f cdv A outer s H E) body (TSx (cxOf (L2.CX P w) P w K mg base N qual scope f cdv A outer s H E) ca E (denSs (callN FT d) fn.body))) :
    FnG P w K mg base (k + 1) f (PySem.W.fnOf name qual params body scope dV kV doc pm an cdv ct) ps (spG K w ca (callN FT (d + 1) i)) := by
  have hl : ∀ vs H Q E, spG K w ca (callN FT (d + 1) i) vs H Q E → vs.length = ps.length := fun vs H Q E ⟨μ, st, ds, rs, r, h⟩ => by
    unfold callN at h
    rw [hi] at h
    simp only at h
    split at h
    · rename_i hc
      rw [← r.length, hc.1, hnp]
    · exact False.elim h
  refine ⟨hl, fun A outer s H args us vs Q E hg hr e0 hb r hsp => ?_⟩
  refine LamX.run_ofS (N := N) lk hcd S hr e0 hb r (hl _ _ _ _ hsp) fun hr' => ⟨_, hbody A outer s H E hg hr', ?_⟩
  obtain ⟨μ, st, ds, rs, rd, h⟩ := hsp
  unfold callN at h
  rw [hi] at h
  simp only at h
  split at h
  · rename_i hc
    refine ⟨μ, ds.map some ++ List.replicate (fn.nl - fn.np) none, st, rs, ?_, ?_⟩
    · have hlen := rd.length
      refine ⟨?_, fun j d e => ?_⟩
      · unfold L2.start
        simp only [List.length_append, List.length_map, List.length_replicate]
        have h1 := hc.1
        have h2 := hc.2
        omega
      · have hj : j < ds.length := by
          by_cases hj : j < ds.length
          · exact hj
          · rw [List.getElem?_append_right (by simpa using hj), List.getElem?_replicate] at e
            split at e <;> cases e
        rw [List.getElem?_append_left (by simpa using hj), List.getElem?_map] at e
        cases e2 : ds[j]? with
        | none => rw [e2] at e; cases e
        | some d' =>
          rw [e2] at e
          cases e
          obtain ⟨v, h1, h2⟩ := rd.get e2
          refine ⟨v, ?_, h2⟩
          unfold L2.start
          rw [List.getElem?_append_left (by rw [List.length_map, ← hlen]; exact hj), List.getElem?_map, h1]
          rfl
    · have h := Po.tidy rs h
      cases e : denSs (callN FT d) fn.body (ds.map some ++ List.replicate (fn.nl - fn.np) none) st with
      | no => rw [e] at h; exact h
      | exc c v st1 => rw [e] at h; exact h
      | ok fl st1 =>
        rw [e] at h
        intro μ' H' b x rs' r'
        cases fl with
        | nx env =>
          cases b with
          | nx σ' => exact h μ' H' .non x rs' .non
          | _ => exact False.elim r'
        | rt v =>
          cases b with
          | rt u => exact h μ' H' u x rs' r'
          | _ => exact False.elim r'
        | bk env => exact False.elim h
        | ct env => exact False.elim h
  · exact False.elim h
end Mi

set_option Elab.async false
set_option linter.all false
set_option maxRecDepth 100000
set_option maxHeartbeats 1000000
/-! Mi, part M: exceptions: raised, caught, kept behind the suite. -/
namespace Mi
open PySem PySem.Spec PyProof.Rows L2

/-! ### raised -/
/-- the def __init__ of the root of the own exceptions -/
def spInit (K : PySem.W.Frag) : Sp := fun vs H Q _ => ∃ (a C : Addr) (y : V), vs = [.ref a, y] ∧ OexC K C ∧ PySem.W.findIn K (.ref C) "value" = some none ∧ H a = some (exo a C none) ∧
  ∀ dx, H dx = none → dx ≠ a → Q .non (upd (upd H dx (exd dx [(("value" : Str), y)])) a (exo a C (some dx)))
/-- ValueError.__init__(self, value); self.value = value -/
abbrev initBody (p1 p2 p3 p4 p5 p6 p7 p8 p9 p10 : Pos) : List Stmt :=
  [.Expr (.Call (.Attribute (.Name "ValueError" p1) "__init__" p2) [.Name "self" p3, .Name "value" p4] [] p5) p6, .Assign [.Attribute (.Name "self" p7) "value" p8] (.Name "value" p9) p10]
theorem init_pss {X : Cx} {p1 p2 p3 p4 p5 p6 p7 p8 p9 p10 : Pos} (pl : Sem Bool) (h0 : X.N[0]? = some ("self" : Str)) (h1 : X.N[1]? = some ("value" : Str)) (v0 : Vis X.env.scope "self") (v1 : Vis X.env.scope "value") (g : Gl X "ValueError") (hm : X.mg "ValueError" = none)
    (vV : PySem.W.findCls X.K (.type "ValueError") (.type "type") "__init__" = some (.val (.builtin "ValueError.__init__")))
    (hc : eval (.Call (.Attribute (.Name "ValueError" p1) "__init__" p2) [.Name "self" p3, .Name "value" p4] [] p5) X.env = (do
      let ov ← eval (.Name "ValueError" p1) X.env
      standAt p2.atName
      let (f, first) ← holding [ov] (getMethod ov "__init__" pl)
      callWith p5 f first (backTo p5 (starEach [.Name "self" p3, .Name "value" p4] X.env)) (backToKw p5 (keywordEach [] X.env)))) :
    PSs X (initBody p1 p2 p3 p4 p5 p6 p7 p8 p9 p10) (tSeq (tDrop (tVeI X.K (tCons (tVar 0) (tCons (tVar 1) tNil)))) (tOst X.K "value" (tVar 0) (tVar 1))) :=
  pss_cons (ps_expr (pe_veinit g hm vV (pa_cons (pe_var h0 v0) (pa_cons (pe_var h1 v1) pa_nil)) hc)) (pss_one (ps_ost (pe_var h0 v0) (pe_var h1 v1)))
theorem init_run {K : PySem.W.Frag} {vs : List V} {H : Hp} {Q : VK} {E : XK} {N : List Str} (h : spInit K vs H Q E) :
    tSeq (tDrop (tVeI K (tCons (tVar 0) (tCons (tVar 1) tNil)))) (tOst K "value" (tVar 0) (tVar 1)) { nx := fun _ H' => Q .non H', rt := Q } (L2.start N vs) H := by
  obtain ⟨a, C, y, rfl, T, hno, ha, q⟩ := h
  have s0 : (L2.start N [V.ref a, y])[0]? = some (some (V.ref a)) := rfl
  have s1 : (L2.start N [V.ref a, y])[1]? = some (some y) := rfl
  refine ⟨_, s0, _, s1, a, C, [y], rfl, Nat.le_of_ble_eq_true rfl, T, ha, ?_⟩
  exact ⟨_, s1, _, s0, a, C, rfl, T, hno, .inl ⟨ha, q⟩⟩

section
variable {X : Cx} {ca : Ca} {W : XK} {Φ : Nat → List D → M D} {k c : Nat} {fI : Addr} {fd : FuncData} {ps : List Str} {x : Str} {p pos pos' : Pos} {e : Expr} {A : E}
theorem xd_eq {H : Hp} {a dx C : Addr} {fs : List (Str × V)} (ha : H a = none) (hne : dx ≠ a) : upd (del (upd (upd H dx (exd dx fs)) a (exo a C (some dx))) a) dx (.xd fs) = upd H dx (.xd fs) := by
  funext b
  by_cases hb : b = dx
  · rw [hb, upd_same, upd_same]
  · rw [upd_ne hb, upd_ne hb]
    by_cases hb2 : b = a
    · rw [hb2, del_same, ha]
    · rw [del_ne hb2, upd_ne hb2, upd_ne hb]
theorem xs_raise (T : OexC X.K (ca c)) (iC : PySem.W.findIn X.K (.ref (ca c)) "__init__" = some (some (.ref fI))) (tI : PySem.W.typeIn X.K (.ref fI) = some (.type "function")) (hno : PySem.W.findIn X.K (.ref (ca c)) "value" = some none)
    (F1 : FnOk X.prog X.w X.K X.mg X.base C8.CX0 k fI fd ps (spInit X.K)) (hr : Room (k + 1) X.A) (hb : Binds X.K fd ps []) (hg : Gl X x) (hm : X.mg x = some (.ref (ca c))) (hc : X.calm = true) (tk : Takes X (fun c d _ H => W c d H))
    (ha : PE X e (TEx X ca W Φ A)) (hdb : (x == ("__debug__" : Str)) = false) (hp : plainE e = true) : PS X (.Raise (some (.Call (.Name x p) [e] [] pos)) none pos') (TSx X ca W (denS Φ (.raise c A))) := by
  refine (ps_raise hc tk (pmk_oex (dvs := []) T iC tI F1 hr hb .nil C8.pass0 hg hm (xa_cons ha xa_nil hp) hdb (star_cons hp))).imp fun D σ H h => ?_
  refine rd1 (Φ := Φ) (A := A) h fun μ1 env st1 d H1 v rs1 re1 r1 h1 => ?_
  refine ⟨Nat.le_of_ble_eq_true rfl, fun a hna => ?_⟩
  refine ⟨a, ca c, v, rfl, T, hno, upd_same, fun dx hdx hne => ⟨rfl, dx, [(("value" : Str), v)], upd_same, ?_, ?_, ?_⟩⟩
  · rw [upd_ne hne, upd_same]
  · rw [upd_ne hne] at hdx; exact hdx
  · rw [upd_ne hne] at hdx
    have e1 : upd (upd (upd H1 a (exo a (ca c) none)) dx (exd dx [(("value" : Str), v)])) a (exo a (ca c) (some dx)) = upd (upd H1 dx (exd dx [(("value" : Str), v)])) a (exo a (ca c) (some dx)) := by
      funext b
      by_cases hb : b = a
      · rw [hb, upd_same, upd_same]
      · rw [upd_ne hb, upd_ne hb]
        by_cases hb2 : b = dx
        · rw [hb2, upd_same, upd_same]
        · rw [upd_ne hb2, upd_ne hb2, upd_ne hb]
    rw [e1, xd_eq hna hne]
    exact h1 μ1 _ dx v (.new hdx) (rs1.new hdx) upd_same (rs1.fresh hdx) (r1.mono (.new hdx))
end

/-! ### caught, and kept -/
section
variable {X : Cx} {pins : List (Addr × Obj)} {σ : L2.St} {H : Hp} {s : Shared}
theorem excH_ok {P : Program} {w : World} {H : Hp} {h : Heap} {a C dx : Addr} {oe : Obj} {vs : Array Value} (ho : h.get? a = some oe) (hc : oe.cls = .ref C) (hd : oe.dict = some dx) (hf : oe.data = .fields vs) : ObjOk P w H h a (ExcH a C dx) :=
  ⟨⟨oe, vs, ho, hc, hd, hf⟩, ⟨oe, ho⟩, fun _ _ ⟨o, us, e, r⟩ k => ⟨o, us, k _ e, r⟩⟩
/-- the exception's object is known from now on -/
theorem inv_adopt {a C dx : Addr} {oe : Obj} {vs : Array Value} (I : Inv X pins σ H s) (na : H a = none) (ho : s.heap.get? a = some oe) (hc : oe.cls = .ref C) (hd : oe.dict = some dx) (hf : oe.data = .fields vs) (h0 : X.s_0.heap.get? a = none) (nL : a ≠ X.env.locals)
    (np : ∀ p ∈ X.pn ++ pins, p.1 ≠ a) : Inv X pins σ (upd H a (ExcH a C dx)) s := by
  have nc : ∀ y c, X.env.cells.lookup y = some c → c ≠ a := fun y c e z => by
    obtain ⟨v, o, e2, d2⟩ := I.cell y c e
    rw [z, ho] at e2
    cases e2
    rw [hf] at d2
    cases d2
  have ne : ∀ {b u}, H b = some u → b ≠ a := fun {b u} e => ne_of_none e na
  refine ⟨I.ok, I.os, I.bare, ⟨I.base.keep, I.base.slot, fun b o e n hx => ?_, I.base.there, fun b xs e => ?_, fun b o u e => ?_, fun b ps e => ?_⟩, I.loc, I.cell, ?_, fun y c e => ?_, fun p hp => ?_, fun b u e => ?_, I.len⟩
  · rw [upd_ne (fun z => by rw [z, h0] at e; cases e)]; exact I.base.free b o e n hx
  · have q := I.base.tups b xs e; rw [upd_ne (ne q)]; exact q
  · have q := I.base.frzs b o u e; rw [upd_ne (ne q)]; exact q
  · obtain ⟨more, q⟩ := I.base.tbls b ps e; exact ⟨more, by rw [upd_ne (ne q)]; exact q⟩
  · rw [upd_ne (Ne.symm nL)]; exact I.free
  · rw [upd_ne (nc y c e)]; exact I.freeC y c e
  · obtain ⟨e, n, r⟩ := I.pin p hp
    exact ⟨e, by rw [upd_ne (np p hp)]; exact n, r⟩
  · by_cases hb : b = a
    · rw [hb, upd_same] at e
      cases e
      rw [hb]
      exact excH_ok ho hc hd hf
    · rw [upd_ne hb] at e
      refine (I.hok b u e).stay (fun d v _ q => q) (fun d q => by rw [upd_ne (ne q)]; exact q) fun d xs q => by rw [upd_ne (ne q)]; exact q
end
/-- what the clause wishes: the class is caught, the suite ends by itself, the exception's object is known then -/
def wKeep (K : PySem.W.Frag) (c : Value) (i : Nat) (ts : Addr → TS) (D : Ends) : WX := fun cls d σ H =>
  PySem.W.exmOne K cls c = some true ∧ ∃ C dx, cls = .ref C ∧ d = some dx ∧ ∀ a, H a = none → ts a ⟨fun σ' H' => D.nx (σ'.set i none) (upd H' a (ExcH a C dx)), fun _ _ => False, fun _ _ => False, fun _ _ => False⟩ (σ.set i (some (.ref a))) H
section
variable {X : Cx} {x n : Str} {c : Value} {i : Nat} {body suite : List Stmt} {b0 : Stmt} {np pos pos' : Pos} {tb : WX → TS} {ts : Addr → TS}
theorem ps_tryK (hs : X.stack = X.env :: X.outer) (hex : X.ex = []) (hf : X.env.frame = some X.env.locals) (hN : X.N.Nodup) (hi : X.N[i]? = some n) (hln : X.env.kindOf n = some .local) (hc : Names X x c)
    (hb : ∀ (W : WX) (pn : List (Addr × Obj)) (xe : Value → Shared → Prop), Takes (X.tr pn xe) W → PassesOwn (model X.prog X.w) X.A X.env xe → PSs (X.tr pn xe) body (tb W))
    (hsu : ∀ (a : Addr) (oe : Obj) (pn : List (Addr × Obj)), PSs (X.suite a ((a, oe) :: pn)) (b0 :: suite) (ts a)) :
    PS X (.Try body [.ExceptHandler (some (.Name x np)) (some n) (b0 :: suite) pos'] [] [] pos) (fun D σ H => tb (wKeep X.K c i ts D) D σ H) := by
  refine ⟨fun pins s σ H D I h => ?_⟩
  have ok := I.ok
  have hfr : X.A.frames = some (X.env :: X.outer) := by rw [ok.frames, hs]
  have hloc : Loc X.env.scope n := .inl hln
  refine wpAny_Try_except ?_
  refine wpAny_mono ((hb (wKeep X.K c i ts D) (X.pn ++ pins) (fun e s1 => wpAny (model X.prog X.w) X.A (noteFrame e X.env) (fun _ s2 => wpAny (model X.prog X.w) X.A (setFlight e none) (fun _ s3 =>
    wpAny (model X.prog X.w) X.A (handleBy e X.env [.ExceptHandler (some (.Name x np)) (some n) (b0 :: suite) pos']) (SP X pins D) X.xe s3) X.xe s2) X.xe s1) (fun u s' xx => ?_) PassesOwn.looking).run [] s σ H D (I.toTry _) h) (fun f s1 hsp => ?_) (fun e s1 he => he)
  · obtain ⟨a, B, sI, pins', σ', H', cls, d, rfl, J', nb, up, sky, na, os, ag, hb1, C, dx, ec, ed, hyes⟩ := xx
    have J : Inv X pins σ' H' sI := J'.ofTry ok
    have sky' : Sky B (X.env :: X.outer) a (Zc cls d) X.env.locals s'.heap := by rw [← hs]; exact sky
    show wpAny (model X.prog X.w) X.A (noteFrame (.ref a) X.env) _ _ _
    refine Sky.land Zc.steady hfr hf sky' fun h3 fl3 up3 => ?_
    have J3 : Inv X pins σ' H' { s' with heap := h3 } := J.landed nb fl3.1 (up.trans up3) os ag
    obtain ⟨oe3, vs3, he3, hz3, hd3⟩ := fl3.there
    have nfr : a ∉ frs (X.env :: X.outer) := fun hm => by
      obtain ⟨_, o', e', hnf⟩ := Heap.FunFrames.mem fl3.2.2.1 hm
      rw [he3] at e'; cases e'
      exact hnf _ hd3
    have nL : a ≠ X.env.locals := fun z => nfr (List.mem_filterMap.mpr ⟨X.env, List.mem_cons_self, by rw [hf, z]⟩)
    have nF : a ∉ X.fs := fun hm => by
      obtain ⟨e, he, q⟩ := List.mem_filterMap.mp hm
      exact nfr (List.mem_filterMap.mpr ⟨e, List.mem_cons_of_mem _ he, q⟩)
    -- the exception is younger than the state that it left
    have nB : B.get? a = none := fl3.2.1
    have nI : sI.heap.get? a = none := by
      cases e : sI.heap.get? a with
      | none => rfl
      | some o =>
        have q := nb a o e (by rw [hs]; exact nfr)
        rw [nB] at q; cases q
    have nP : ∀ p ∈ X.pn ++ pins, p.1 ≠ a := fun p hp z => by
      have q := (J.pin p hp).1
      rw [z, nI] at q; cases q
    have n0 : X.s_0.heap.get? a = none := by
      cases e : X.s_0.heap.get? a with
      | none => rfl
      | some o =>
        obtain ⟨o', q⟩ := J.base.there a o e (by rw [hex]; simp)
        rw [nI] at q; cases q
    have S3 := J3.suite he3 hd3 na nL nF
    refine wpAny_handleBy_cons (codeAny_handlers_test ?_) (by intro q; cases q)
    have LT : PySem.W.Looks (model X.prog X.w) h3 (typeOf (.ref a)) cls := fun A Q E s k q => wpAny_typeOf_ref (k _ _ he3) (by rw [hz3.1]; exact q)
    have LM := PySem.W.exm_one (M := model X.prog X.w) (J3.kIn) LT hb1
    have test : ∀ {Q : Value → Shared → Prop} {E : Value → Shared → Prop}, Q c { s' with heap := h3 } → wpAny (model X.prog X.w) (X.A.mark (some (.ref a))) (eval (.Name x np) X.env) Q E { s' with heap := h3 } := fun {Q E} q => by
      obtain ⟨hg, hdbg, hm | ⟨hm, hv, hnn⟩⟩ := hc
      · exact ld_glob (X := X.suite a ((a, oe3) :: (X.pn ++ pins))) S3 hg hm q hdbg
      · exact ld_blt (X := X.suite a ((a, oe3) :: (X.pn ++ pins))) S3 hg hm hv q hnn hdbg
    refine test (LM.here ?_)
    refine codeAny_handlers_suite_as ?_
    refine HandSPX.lands_againZ fl3 fun h4 fl4 up4 => ?_
    have J4 : Inv X pins σ' H' { s' with heap := h4 } := J.landed nb fl4.1 ((up.trans up3).trans up4) os ag
    obtain ⟨oe4, vs4, he4, hz4, hd4⟩ := fl4.there
    have S4 := J4.suite he4 hd4 na nL nF
    refine store_ok (X := X.suite a ((a, oe4) :: (X.pn ++ pins))) (v := .ref a) S4 hN hi hloc rfl (fun s5 S5 => ?_) (.inr hln)
    refine wpAny_mono ((hsu a oe4 (X.pn ++ pins)).run [] s5 _ H' _ S5 (hyes a na)) (fun f s6 hsp => ?_) (fun _ _ z => False.elim z)
    cases f with
    | next =>
      obtain ⟨σ6, H6, S6, q6⟩ := hsp
      have P6 : Inv X ((a, oe4) :: pins) σ6 H6 s6 := ⟨ok, S6.os, S6.bare, S6.base, S6.loc, S6.cell, S6.free, S6.freeC, fun p hp => by
        refine S6.pin p ?_
        have hp : p ∈ X.pn ++ (a, oe4) :: pins := hp
        show p ∈ ((a, oe4) :: (X.pn ++ pins)) ++ []
        simp only [List.mem_append, List.mem_cons, List.append_nil] at hp ⊢
        rcases hp with h | h | h
        · exact .inr (.inl h)
        · exact .inl h
        · exact .inr (.inr h), S6.hok, S6.len⟩
      refine gone_ok P6 hN hi hln fun s7 J7 => ?_
      obtain ⟨g7, n7, _⟩ := J7.pin (a, oe4) (List.mem_append_right _ List.mem_cons_self)
      have J8 : Inv X pins (σ6.set i none) H6 s7 := J7.pins_of fun p hp => J7.pin p (List.mem_append_right _ (List.mem_cons_of_mem _ hp))
      exact ⟨_, _, inv_adopt J8 n7 g7 (hz4.1.trans ec) (hz4.2.trans ed) hd4 n0 nL nP, q6⟩
    | brk => obtain ⟨_, _, _, q6⟩ := hsp; exact False.elim q6
    | cont => obtain ⟨_, _, _, q6⟩ := hsp; exact False.elim q6
    | ret u => obtain ⟨_, _, _, _, _, q6⟩ := hsp; exact False.elim q6
  · cases f with
    | next => obtain ⟨σ', H', J', q⟩ := hsp; exact wpAny_execs_nil ⟨σ', H', J'.ofTry ok, q⟩
    | brk => obtain ⟨σ', H', J', q⟩ := hsp; exact ⟨σ', H', J'.ofTry ok, q⟩
    | cont => obtain ⟨σ', H', J', q⟩ := hsp; exact ⟨σ', H', J'.ofTry ok, q⟩
    | ret u => obtain ⟨v, σ', H', J', r, q⟩ := hsp; exact ⟨v, σ', H', J'.ofTry ok, r, q⟩
end
end Mi

set_option Elab.async false
set_option linter.all false
set_option maxRecDepth 100000
set_option maxHeartbeats 2000000
/-! Mi, part N: a call of a lambda, heard. -/
namespace Mi
open PySem PySem.Spec PyProof.Rows L2 LamX

/-! ### a, b = x, y: what is stored from the right -/
def starry : Expr → Bool
  | .Starred .. => true
  | _ => false
def nmOf (look : Str → Option NameKind) (line : Nat) : Expr → Option Str
  | .Name id pos => if look id == some .local && pos.line == line then some id else none
  | _ => none
def lineOf (ts : List Expr) : Nat := (ts.head?.map (·.pos.line)).getD 0
/-- the names that are stored from the right, if so -/
def swapP (look : Str → Option NameKind) (ts vs : List Expr) : Option (Option (List Str)) :=
  if (!(ts.length == 2 || ts.length == 3) || vs.length != ts.length) = true then some none
  else if vs.any starry = true then some none
  else if ((ts.filterMap (nmOf look (lineOf ts))).length != ts.length || (ts.filterMap (nmOf look (lineOf ts))).eraseDups.length != (ts.filterMap (nmOf look (lineOf ts))).length) = true then some none
  else if vs.all (foldedForSure 8) = true then some none
  else if vs.all (constantsAlone 8) = true then none
  else some (some (ts.filterMap (nmOf look (lineOf ts))))
theorem congr_two {α β γ : Type} (f : α → β → γ) {a a' : α} {b b' : β} (h : a = a') (k : b = b') : f a b = f a' b' := by rw [h, k]
theorem swap_eq {env : Env} {ts vs : List Expr} {k k2 : Nat} {p p2 : Pos} {r : Option (List Str)} (hk : env.scope.kind = .function) (h : swapP env.kindOf ts vs = some r) : swappedStores [.Tuple ts k p] (.Tuple vs k2 p2) env = pure r := by
  have hb : env.blockKind = .function := by unfold Env.blockKind; rw [hk]; rfl
  have e1 : (fun x => match x with | .Starred .. => true | _ => false) = starry := by
    funext x; cases x <;> rfl
  have e2 : (fun x => match x with | .Name id pos => if env.kindOf id == some .local && pos.line == (Option.map (fun x => x.pos.line) ts.head?).getD 0 then some id else none | _ => none) = nmOf env.kindOf (lineOf ts) := by
    funext x; cases x <;> rfl
  unfold swapP at h
  unfold swappedStores
  simp only [hb, bne_self_eq_false, Bool.or_false]
  have e1' := e1
  have e2' := e2
  split at h
  · rename_i c; cases h; rw [if_pos c]
  · rename_i c
    rw [if_neg c]
    refine Eq.trans (congr_two (fun (f : Expr → Bool) (g : Expr → Option Str) => (if vs.any f = true then (pure none : Sem (Option (List Str))) else if ((ts.filterMap g).length != ts.length || (ts.filterMap g).eraseDups.length != (ts.filterMap g).length) = true then pure none else if vs.all (foldedForSure 8) = true then pure none else if vs.all (constantsAlone 8) = true then (do unsupported "assign.tuple-of-constant-expressions:order-of-the-stores"; pure (some (ts.filterMap g))) else pure (some (ts.filterMap g)))) e1 e2) ?_
    split at h
    · rename_i c; cases h; rw [if_pos c]
    · rename_i c
      rw [if_neg c]
      split at h
      · rename_i c; cases h; rw [if_pos c]
      · rename_i c
        rw [if_neg c]
        split at h
        · rename_i c; cases h; rw [if_pos c]
        · rename_i c
          rw [if_neg c]
          split at h
          · cases h
          · rename_i c; cases h; rw [if_neg c]
theorem swap_no {env : Env} {t e : Expr} (h : (∀ ts k p, t ≠ .Tuple ts k p) ∧ (∀ ts p, t ≠ .List ts p)) : swappedStores [t] e env = pure none := by
  unfold swappedStores
  cases t <;> first | rfl | exact absurd rfl (h.1 _ _ _) | exact absurd rfl (h.2 _ _)
theorem swap_no2 {env : Env} {ts : List Expr} {k : Nat} {p : Pos} {e : Expr} (h : ∀ vs k2 p2, e ≠ .Tuple vs k2 p2) : swappedStores [.Tuple ts k p] e env = pure none := by
  unfold swappedStores
  cases e <;> first | rfl | exact absurd rfl (h _ _ _)

theorem ext_xt {K : PySem.W.Frag} {μ : List Addr} {H H1 : Hp} (e : ExtN H H1) : Xt K μ H μ H1 := by
  refine ⟨⟨[], by simp, by simp⟩, fun a o h _ nt => e a o h nt, fun a vs h => ?_, fun a vs h => ?_⟩
  · rcases h with (h | ⟨u, h⟩) | h
    · exact .inl (.inl (e a _ h fun _ z => HO.noConfusion z))
    · exact .inl (.inr ⟨u, e a _ h fun _ z => HO.noConfusion z⟩)
    · exact .inr h
  · rcases h with ⟨u, h⟩ | h
    · exact .inl ⟨u, e a _ h fun _ z => HO.noConfusion z⟩
    · exact .inr h
theorem ext_rs {K : PySem.W.Frag} {w : World} {ca : Ca} {μ : List Addr} {st : Sto} {H H1 : Hp} (rs : RS K w ca μ st H) (e : ExtN H H1) (t : Tabs ca.T H1) : RS K w ca μ st H1 := by
  refine ⟨rs.len, rs.nd, fun n o a e1 e2 => ?_, t⟩
  obtain ⟨u, hu, p⟩ := rs.mem (List.mem_of_getElem? e2)
  exact (rs.at_ n o a e1 e2).mono (ext_xt e) ((e a u hu p.tbl).trans hu.symm)

section
variable {X : Cx} {pins : List (Addr × Obj)} {σ : L2.St} {H : Hp} {s : Shared}
/-- the lambda is called in the def that got it -/
theorem pe_actG {Ng : List Str} {qg : Str} {sg : Scope} {g f c' : Addr} {cdg pm ctv : Value} {params : Arguments} {body : Expr} {scope : Scope} {k i : Nat} {a : Str} {pn : List (Addr × Obj)} {xe : Value → Shared → Prop} {W : WX} {t : XK → TE} {p1 p2 : Pos}
    (I : Inv X pins σ H s) (L : LamS X.env.scope scope) (hf : s.heap.get? f = some (PySem.W.kla_obj "<lambda>" (X.env.qual ++ "<lambda>") params body scope (cloFrom X.env.cells scope.names []) pm c' ctv)) (hfn : H f = none) (hfr : f ∉ frs X.stack)
    (hbind : bindArgs (PySem.W.kla_fn "<lambda>" (X.env.qual ++ "<lambda>") params body scope (cloFrom X.env.cells scope.names []) pm (.ref c') ctv) ⟨[], []⟩ = pure [])
    (tk : Takes ((cxOf C8.CX0 X.prog X.w X.K X.mg X.base Ng qg sg g cdg X.A X.stack s H C8.E0).tr pn xe) W) (hgu : X.A.guards = some []) (hr : Room (k + 1) (X.A.deeper (envOfC qg sg s.heap.objs.size g cdg)))
    (hbody : ∀ (A : Around) (outer : List Env) (s : Shared) (H : Hp) (E : XK), A.guards = some [] → Room k (A.deeper (lamEnv X scope s.heap.objs.size f c')) → PE (lamCx X A outer s H E scope f c') body (t E))
    (hN : Ng[i]? = some a) (hv : Vis sg a) (hd : (a == ("__debug__" : Str)) = false := by decide) (hcd : (a == ("__classdict__" : Str)) = false := by decide) :
    PE ((cxOf C8.CX0 X.prog X.w X.K X.mg X.base Ng qg sg g cdg X.A X.stack s H C8.E0).tr pn xe) (.Call (.Name a p1) [] [] p2)
      (fun σZ HZ Q => σZ[i]? = some (some (.ref f)) ∧ HZ c' = some (CodeO c' (X.env.qual ++ "<lambda>")) ∧ t (fun cls d H' => W cls d σZ H') σ HZ Q) := by
  refine ⟨fun pinsZ sZ σZ HZ Q IZ h => ?_⟩
  obtain ⟨hs, hc, ht⟩ := h
  refine wpAny_Call_Name_kw (thn ((pe_var (pos := p1) (i := i) hN hv hd hcd).run pinsZ sZ σZ HZ (fun v H1 => v = .ref f ∧ H1 = HZ) IZ ⟨.ref f, hs, rfl, rfl⟩) fun u s1 ⟨v, H1, I1, r1, ev, eH⟩ => ?_)
  subst ev
  rw [eH] at I1
  obtain rfl : u = Value.ref f := r1
  have of1 : s1.heap.get? f = some (PySem.W.kla_obj "<lambda>" (X.env.qual ++ "<lambda>") params body scope (cloFrom X.env.cells scope.names []) pm c' ctv) := I1.base.keep f _ hf hfn hfr (fun z => nomatch (show f ∈ ([] : List Addr) from z))
  refine PySem.W.callWith_F0 ⟨_, _, _, _, of1⟩ ?_
  obtain ⟨⟨oc, vs, tc, hoc, hdc, hvc⟩, _, _⟩ := I1.hok c' _ hc
  have rc : codeAny (model X.prog X.w) (X.A.deeper (envOfC qg sg s.heap.objs.size g cdg)) (.call (.ref f) ⟨[], []⟩) (CR (L2.CX X.prog X.w) (envOfC qg sg s.heap.objs.size g cdg :: X.stack) X.prog X.w HZ s1 Q (fun cls d H' => W cls d σZ H')) s1 := by
    refine PySem.W.kla_callFunE hr.depth of1 rfl L.co L.gen rfl ⟨c', oc, vs, tc, rfl, hoc, hdc, hvc⟩ ?_
    rw [hbind]
    refine wpAny_pure (wpAny_newFunctionEnv (fun y hy => (L.own y hy).2) (fun y hy => absurd hy (by simp)) (fun h₁ hns hsb => ⟨I1.nolimit.fresh _ hsb, ?_⟩) L.kind)
    show codeAny _ _ (.expr body (lamEnv X scope s1.heap.objs.size f c')) _ _
    have J : Inv (lamCx X (X.A.deeper (envOfC qg sg s.heap.objs.size g cdg)) (envOfC qg sg s.heap.objs.size g cdg :: X.stack) s1 HZ (fun cls d H' => W cls d σZ H') scope f c') [] σ HZ { s1 with heap := h₁, toks := s1.toks + ([] : List (Str × Value)).length } :=
      lam_start2 I L I1.env0 hr.hd I1.base hns fun b o e => hsb.extBut b o (Nat.ne_of_lt (Heap.lt_size e)) (Heap.get?_push_of_some _ e)
    refine PySem.W.kla_codeExpr (wpAny_mono ((hbody (X.A.deeper (envOfC qg sg s.heap.objs.size g cdg)) (envOfC qg sg s.heap.objs.size g cdg :: X.stack) s1 HZ (fun cls d H' => W cls d σZ H') hgu (hr.deeper _)).run [] _ _ HZ Q J ht) (fun v s' ⟨w', H', J', rv, q⟩ => ⟨w', H', J'.os, J'.bare, J'.base, J'.hok, rv, q⟩) fun e s' hq => hq)
  refine wpAny_call (codeAny_mono rc fun r s' hq => ?_)
  cases r with
  | error e => exact tk e s' (XE.of_call I1 (fun _ _ _ h => h) hq)
  | ok fl =>
    cases fl with
    | ret u => exact I1.after hq
    | next => exact False.elim hq
    | brk => exact False.elim hq
    | cont => exact False.elim hq
end

/-- the helper of the laws that hears what a call says -/
abbrev heardBody (p : Nat → Pos) (k : Nat → Nat) : List Stmt :=
  [.Assign [.Tuple [.Name "caught" (p 0), .Name "back" (p 1)] (k 0) (p 2)] (.Tuple [.Constant .none (k 1) (p 3), .Constant .none (k 2) (p 4)] (k 3) (p 5)) (p 6),
   .Try [.Assign [.Name "back" (p 7)] (.Call (.Name "call" (p 8)) [] [] (p 9)) (p 10)] [.ExceptHandler (some (.Name "ThreadError" (p 11))) (some "error") [.Assign [.Name "caught" (p 12)] (.Name "error" (p 13)) (p 14)] (p 15)] [] [] (p 16),
   .Return (some (.Tuple [.Name "caught" (p 17), .Name "back" (p 18)] (k 4) (p 19))) (p 20)]
def heardN : List Str := ["call", "caught", "back", "error"]
/-- what it does: ta the reading of the call -/
def tHeard (K : PySem.W.Frag) (CT : Addr) (ta : WX → TE) : TS :=
  tSeq (tAsg (tTup (tCons (tC .non) (tCons (tC .non) tNil))) (gTup K 2 (gCons (gName 1) (gCons (gName 2) gNil))))
    (tSeq (fun D σ H => tAsg (ta (wKeep K (.ref CT) 3 (fun _ => tAsg (tVar 3) (gName 1)) D)) (gName 2) D σ H) (tRet (tTup (tCons (tVar 1) (tCons (tVar 2) tNil)))))
theorem heard_pss {Z : Cx} {CT : Addr} {ta : WX → TE} {pp : Nat → Pos} {kk : Nat → Nat} (hs : Z.stack = Z.env :: Z.outer) (hx : Z.ex = []) (hf : Z.env.frame = some Z.env.locals) (hk : Z.env.scope.kind = .function) (hN : Z.N = heardN) (hc : Z.calm = true)
    (l2 : Z.env.scope.names.lookup ("caught" : Str) = some .local) (l3 : Z.env.scope.names.lookup ("back" : Str) = some .local) (l4 : Z.env.scope.names.lookup ("error" : Str) = some .local) (l5 : Gl Z "ThreadError") (hCT : Z.mg "ThreadError" = some (.ref CT))
    (act : ∀ (W : WX) (pn : List (Addr × Obj)) (xe : Value → Shared → Prop), Takes (Z.tr pn xe) W → PE (Z.tr pn xe) (.Call (.Name "call" (pp 8)) [] [] (pp 9)) (ta W)) : PSs Z (heardBody pp kk) (tHeard Z.K CT ta) := by
  have nd : Z.N.Nodup := by rw [hN]; decide
  have n1 : Z.N[1]? = some ("caught" : Str) := by rw [hN]; rfl
  have n2 : Z.N[2]? = some ("back" : Str) := by rw [hN]; rfl
  have n3 : Z.N[3]? = some ("error" : Str) := by rw [hN]; rfl
  refine pss_cons (ps_asg (pe_tup (pa_cons pe_non (pa_cons pe_non pa_nil))) (pg_tup (n := 2) hc (pgs_cons (pg_name nd n1 (.inl l2) (.inr l2)) (pgs_cons (pg_name nd n2 (.inl l3) (.inr l3)) pgs_nil))) rfl (swap_eq hk ?_)) (pss_cons ?_ (pss_one (ps_ret (pe_tup (pa_cons (pe_var n1 (.inl l2)) (pa_cons (pe_var n2 (.inl l3)) pa_nil))))))
  · unfold swapP
    split
    · rfl
    · split
      · rfl
      · split <;> rfl
  · refine ps_tryK (ts := fun _ => tAsg (tVar 3) (gName 1)) (tb := fun W D σ H => tAsg (ta W) (gName 2) D σ H) hs hx hf nd n3 l4 ⟨l5, by decide, .inl hCT⟩ (fun W pn xe tk _ => ?_) fun a oe pn => ?_
    · exact pss_one (ps_set nd n2 (.inl l3) (act W pn xe tk) rfl (.inr l3))
    · exact pss_one (ps_set (X := Z.suite a ((a, oe) :: pn)) nd n1 (.inl l2) (pe_var (X := Z.suite a ((a, oe) :: pn)) n3 (.inl l4)) rfl (.inr l2))
theorem heard_run {K : PySem.W.Frag} {w : World} {ca : Ca} {W : XK} {CT f : Addr} {t : XK → TE} {μ : List Addr} {st : Sto} {H : Hp} {Q : VK} {σ : L2.St} {c' : Addr} {q : Str} {o : Out D} (hex : ∀ c, PySem.W.exmOne K (.ref (ca c)) (.ref CT) = some true)
    (hco : H c' = some (CodeO c' q)) (rs : RS K w ca μ st H) (h : Po K w ca W (RV K) μ H (heardD o) Q)
    (ht : ∀ (E : XK) (H1 : Hp) (Q1 : VK), (∀ a u, H a = some u → H1 a = some u) → RS K w ca μ st H1 → Xt K μ H μ H1 → Po K w ca E (RV K) μ H1 o Q1 → t E σ H1 Q1) :
    tHeard K CT (fun W σZ HZ Q => σZ[0]? = some (some (.ref f)) ∧ HZ c' = some (CodeO c' q) ∧ t (fun cls d H' => W cls d σZ H') σ HZ Q) { nx := fun _ H' => Q .non H', rt := Q } (L2.start heardN [.ref f]) H := by
  refine ⟨by show 2 ≤ sizeLine; decide, fun p hp => ⟨p, [.non, .non], rfl, .of upd_same, rfl, .non, [.non], rfl, .non, [], rfl, rfl, ?_⟩⟩
  have xp : Xt K μ H μ (upd H p (.tup [.non, .non])) := .new hp
  refine ⟨rfl, by rw [upd_ne (ne_of_none hco hp)]; exact hco, ht _ _ _ (fun a u e => by rw [upd_ne (ne_of_none e hp)]; exact e) (rs.new hp) xp ?_⟩
  have h := Po.shift xp h
  cases o with
  | no => exact h
  | ok v st1 =>
    intro μ' H' b x rs' r
    refine ⟨.non, rfl, b, rfl, by show 2 ≤ sizeLine; decide, fun p2 hp2 => ?_⟩
    exact h μ' _ (.ref p2) (x.trans (.new hp2)) (rs'.new hp2) (.tup (.of upd_same) (.cons .non (.cons (r.mono (.new hp2)) .nil)))
  | exc c v st1 =>
    intro μ' H' dx y x rs' hd hn r
    refine ⟨hex c, ca c, dx, rfl, rfl, fun a na => ?_⟩
    refine ⟨.ref a, rfl, ?_⟩
    refine ⟨.ref a, rfl, .non, rfl, by show 2 ≤ sizeLine; decide, fun p2 hp2 => ?_⟩
    have hda : dx ≠ a := ne_of_none hd na
    have x2 : Xt K μ' H' (μ' ++ [a]) (upd H' a (ExcH a (ca c) dx)) := .lay na
    have rs2 : RS K w ca (μ' ++ [a]) (st1 ++ [.exc c v]) (upd H' a (ExcH a (ca c) dx)) := rs'.lay na ⟨dx, y, upd_same, by rw [upd_ne hda]; exact hd, fun z => by
      rcases List.mem_append.mp z with z | z
      · exact hn z
      · exact hda (List.mem_singleton.mp z), r.mono x2⟩
    refine h (μ' ++ [a]) _ (.ref p2) ((x.trans x2).trans (.new hp2)) (rs2.new hp2) (.tup (.of upd_same) (.cons (.ref ?_) (.cons .non .nil)))
    rw [← rs'.len, List.getElem?_append_right (Nat.le_refl _)]; simp
section
variable {X : Cx} {ca : Ca} {W : XK} {Φ : Nat → List D → M D}
theorem xe_heard {g c P CT : Addr} {k : Nat} {pg : Arguments} {pp : Nat → Pos} {kk : Nat → Nat} {sg : Scope} {dV kV doc pm cdv ct oc : Value} {an od : Option Addr} {osl : Array (Option Value)}
    {params : Arguments} {body : Expr} {scope : Scope} {A' : E} {p lpos pos : Pos} {x : Str} (hg : Gl X x) (hm : X.mg x = some (.ref g)) (hk : PySem.W.keepIn X.K (.ref g) = true)
    (lk : X.K.lookup g = some ⟨oc, od, .func (PySem.W.fnOf x x pg (heardBody pp kk) sg dV kV doc pm an cdv ct), osl⟩) (hcg : PySem.W.codeIn X.K cdv x = true) (hb : L2.Binds X.K (PySem.W.fnOf x x pg (heardBody pp kk) sg dV kV doc pm an cdv ct) ["call"] []) (Sg : FnScope heardN ["call"] sg)
    (l1 : sg.names.lookup ("call" : Str) = some .local) (l2 : sg.names.lookup ("caught" : Str) = some .local) (l3 : sg.names.lookup ("back" : Str) = some .local) (l4 : sg.names.lookup ("error" : Str) = some .local) (l5 : sg.names.lookup ("ThreadError" : Str) = some .globalImplicit)
    (hCT : X.mg "ThreadError" = some (.ref CT)) (hex : ∀ c, PySem.W.exmOne X.K (.ref (ca c)) (.ref CT) = some true)
    (TB : TabB X.base X.mg c P) (hcode : X.env.code = .ref c) (hmT : (P, X.env.qual ++ "<lambda>") ∈ ca.T) (hu : ∀ p ∈ ca.T, p.1 = P → p.2 = X.env.qual ++ "<lambda>") (hgu : X.A.guards = some []) (hr : Room (k + 2) X.A) (L : LamS X.env.scope scope) (hdef : defaultsOf params X.env = ([], []))
    (hbind : ∀ (q : Str) (cl : List (Str × Addr)) (pm cv ctv : Value), bindArgs (PySem.W.kla_fn "<lambda>" q params body scope cl pm cv ctv) ⟨[], []⟩ = pure [])
    (hbody : ∀ (A : Around) (outer : List Env) (s : Shared) (H : Hp) (E : XK) (f c' : Addr), A.guards = some [] → Room k (A.deeper (lamEnv X scope s.heap.objs.size f c')) → PE (lamCx X A outer s H E scope f c') body (TEx (lamCx X A outer s H E scope f c') ca E Φ A'))
    (hdb : (x == ("__debug__" : Str)) = false) : PE X (.Call (.Name x p) [.Lambda params body scope lpos] [] pos) (TEx X ca W Φ (.heard A')) := by
  refine ⟨fun pins s σ H Q I ⟨μ, env, st, rs, re, h⟩ => ?_⟩
  have h : Po X.K X.w ca W (RV X.K) μ H (heardD (den Φ A' env st)) Q := h
  refine wpAny_Call_Name_kw (ld_glob I hg hm ?_ hdb)
  refine PySem.W.callWith_K (h₀ := X.base) I.ok.mod.kin hk ?_ (by rfl) (by rfl)
  show wpAny _ _ (spliced ((false, eval (.Lambda params body scope lpos) X.env) :: backTo pos (starEach [] X.env))) _ _ s
  refine Calls.spliced_cons (lam_make2 I TB hcode hmT hu rs.tab hdef (L.has I.ok) fun f c' pm' ctv H1 s' I1 eN T1 hf hfn hfr hco => ?_)
  refine Calls.spliced_nil ⟨I1.kIn, ?_⟩
  have x1 : Xt X.K μ H μ H1 := ext_xt eN
  have rs1 := ext_rs rs eN T1
  have re1 := re.mono x1
  have h1 := Po.shift x1 h
  have rc : codeAny (model X.prog X.w) X.A (.call (.ref g) ⟨[.ref f], []⟩) (CR C8.CX0 X.stack X.prog X.w H1 s' Q C8.E0) s' := by
    refine run_ofS (N := heardN) (ps := ["call"]) (us := [.ref f]) (vs := [.ref f]) lk hcg Sg hr I1.env0 (hb s' [.ref f] I1.kIn rfl) (.cons rfl .nil) rfl fun hr' => ?_
    have hZ := heard_pss (Z := (cxOf C8.CX0 X.prog X.w X.K X.mg X.base heardN x sg g cdv X.A X.stack s' H1 C8.E0).nox) (CT := CT) (pp := pp) (kk := kk)
      (ta := fun W σZ HZ Q => σZ[0]? = some (some (V.ref f)) ∧ HZ c' = some (CodeO c' (X.env.qual ++ "<lambda>")) ∧ TEx X ca (fun cls d H' => W cls d σZ H') Φ A' σ HZ Q)
      rfl rfl rfl Sg.kind rfl rfl l2 l3 l4 l5 hCT fun W pn xe tk => pe_actG (Ng := heardN) (i := 0) (t := fun E => TEx X ca E Φ A') I1 L hf hfn hfr (hbind _ _ _ _ _) tk hgu hr' (fun A outer s H E ga hr2 => hbody A outer s H E f c' ga hr2) rfl (.inl l1)
    refine ⟨_, hZ.nox, ?_⟩
    exact heard_run (t := fun E => TEx X ca E Φ A') (W := W) hex hco rs1 h1 fun E H2 Q1 k2 rs2 x2 hp => ⟨μ, env, st, rs2, re1.mono x2, hp⟩
  refine wpAny_call (codeAny_mono rc fun r s2 hq => ?_)
  cases r with
  | error e => exact (show False from hq).elim
  | ok fl =>
    cases fl with
    | ret u => exact I1.after hq
    | next => exact False.elim hq
    | brk => exact False.elim hq
    | cont => exact False.elim hq
end
end Mi

set_option Elab.async false
set_option linter.all false
set_option maxRecDepth 100000
set_option maxHeartbeats 2000000
/-! Mi, part O: isinstance, an exception's value, list(range(n)), displays of dicts. -/
namespace Mi
open PySem PySem.Spec PyProof.Rows L2

/-! ### isinstance of a built-in type -/
def tyNm : Ty → String
  | .int => "int" | .bool => "bool" | .str => "str" | .tuple => "tuple" | .list => "list"
theorem ty_non (t : Ty) : kitB "NoneType" (tyNm t) = some false := by cases t <;> decide +kernel
theorem ty_int (t : Ty) : kitB "int" (tyNm t) = some (decide (t = .int)) := by cases t <;> decide +kernel
theorem ty_bl (t : Ty) : kitB "bool" (tyNm t) = some (decide (t = .int) || decide (t = .bool)) := by cases t <;> decide +kernel
theorem ty_str (t : Ty) : kitB "str" (tyNm t) = some (decide (t = .str)) := by cases t <;> decide +kernel
theorem ty_tup (t : Ty) : kitB "tuple" (tyNm t) = some (decide (t = .tuple)) := by cases t <;> decide +kernel
theorem ty_lst (t : Ty) : kitB "list" (tyNm t) = some (decide (t = .list)) := by cases t <;> decide +kernel
theorem ty_dic (t : Ty) : kitB "dict" (tyNm t) = some false := by cases t <;> decide +kernel
section
variable {X : Cx} {ca : Ca} {W : XK} {Φ : Nat → List D → M D} {a b c e : Expr} {es : List Expr} {A B C : E} {As : List E} {pos p2 p3 : Pos}
theorem kit_D {pins : List (Addr × Obj)} {σ : L2.St} {s : Shared} {μ : List Addr} {H : Hp} {st : Sto} {d : D} {v : V} {u : Value} {t : Ty} {b : Bool} (I : Inv X pins σ H s) (rs : RS X.K X.w ca μ st H) (r : RV X.K μ H d v) (ru : RelV v u) (h : isT st t d = some b) :
    ∃ (T : Value) (P : Heap → Prop), PySem.W.KitX X.K u T P ∧ P s.heap ∧ u ≠ .builtin "__main__.__loader__#opaque" ∧ PySem.W.kitOne X.K T (.type (tyNm t)) = some b := by
  cases r with
  | non => cases (show u = Value.none from ru); cases h; exact ⟨_, _, PySem.W.kitx_none, True.intro, (fun z => nomatch z), kit_ty (ty_non t)⟩
  | bl y => cases (show u = Value.bool y from ru); cases h; exact ⟨_, _, PySem.W.kitx_bool, True.intro, (fun z => nomatch z), kit_ty (ty_bl t)⟩
  | int i => obtain ⟨tk, q⟩ := (show ∃ t, u = Value.int i t from ru); cases q; cases h; exact ⟨_, _, PySem.W.kitx_int, True.intro, (fun z => nomatch z), kit_ty (ty_int t)⟩
  | str y => obtain ⟨tk, q⟩ := (show ∃ t, u = Value.str y t from ru); cases q; cases h; exact ⟨_, _, PySem.W.kitx_str, True.intro, (fun z => nomatch z), kit_ty (ty_str t)⟩
  | tup hs hr =>
    rename_i a vs ds
    cases (show u = Value.ref a from ru)
    cases h
    obtain ⟨its, _, p, _⟩ := I.tuple hs
    obtain ⟨o, h1, h2, _⟩ := p
    exact ⟨_, _, PySem.W.kitx_tuple, ⟨o, h1, h2⟩, (fun z => nomatch z), kit_ty (ty_tup t)⟩
  | frz hs hr =>
    rename_i a vs ds
    cases (show u = Value.ref a from ru)
    cases h
    obtain ⟨its, _, p, _⟩ := I.list hs.sq
    obtain ⟨o, h1, h2, _⟩ := p.isList
    exact ⟨_, _, PySem.W.kitx_list, ⟨o, h1, h2⟩, (fun z => nomatch z), kit_ty (ty_lst t)⟩
  | ref hn =>
    rename_i n a
    cases (show u = Value.ref a from ru)
    obtain ⟨o, ho, ro⟩ := rs.obj hn
    simp only [isT, ho] at h
    cases o with
    | lst xs =>
      cases h
      obtain ⟨vs, e, _⟩ := ro
      obtain ⟨its, _, p, _⟩ := I.list (.of e)
      obtain ⟨o, h1, h2, _⟩ := p.isList
      exact ⟨_, _, PySem.W.kitx_list, ⟨o, h1, h2⟩, (fun z => nomatch z), kit_ty (ty_lst t)⟩
    | dic kvs ep =>
      cases h
      obtain ⟨es, e, _⟩ := ro
      obtain ⟨o, g1, g2, g3⟩ := rawD_at I.hok e
      exact ⟨_, _, PySem.W.kitx_dict, ⟨o, g1, g2.1⟩, (fun z => nomatch z), kit_ty (ty_dic t)⟩
    | exc c v => cases h
theorem xe_isI {t : Ty} {x : Str} (hg : Gl X "isinstance") (hm : X.mg "isinstance" = none) (hg2 : Gl X x) (hm2 : X.mg x = none) (hv2 : bootBuiltins x = some (.type (tyNm t))) (hn : x ≠ "__name__") (hd : (x == ("__debug__" : Str)) = false)
    (ha : PE X a (TEx X ca W Φ A)) (hp : plainE a = true) : PE X (.Call (.Name "isinstance" p2) [a, .Name x p3] [] pos) (TEx X ca W Φ (.isI A t)) := by
  have hc : CallR X (.builtin "isinstance") (fun xs H Q => ∃ v μ st d b, xs = [v, .ty (tyNm t)] ∧ RS X.K X.w ca μ st H ∧ RV X.K μ H d v ∧ isT st t d = some b ∧ Q (.bl b) H) := by
    intro pins s σ H xs us Q I r ⟨v, μ, st, d, b, e, rs, rv, h, q⟩
    subst e
    obtain ⟨u1, u2, rfl, r1, r2⟩ := vals2 r
    cases (show u2 = Value.type (tyNm t) from r2)
    obtain ⟨T, P, Z, p, hx, k⟩ := kit_D I rs rv r1 h
    exact PySem.W.kia_one Z I.kIn p k hx fun tk => ⟨.bl b, H, I.tok tk, rfl, q⟩
  have hpa : PA X [a, .Name x p3] (tCons (TEx X ca W Φ A) (tCons (tC (.ty (tyNm t))) tNil)) := pa_cons ha (pa_cons (pe_bltn hg2 hm2 hv2 rfl hn hd) pa_nil) (star_cons hp)
  refine (pe_callB hc hg hm (by decide +kernel) hpa (by decide) (by decide) (star_cons hp) (by rfl)).imp fun σ H Q h => ?_
  refine rd_bind (m := den Φ A) h fun μ1 env st1 x H1 vx rs1 re1 r1 h1 => ?_
  cases e : isT st1 t x with
  | none => rw [e] at h1; exact False.elim h1
  | some b =>
    rw [e] at h1
    exact ⟨vx, μ1, st1, x, b, rfl, rs1, r1, e, h1.here rs1 (.bl b)⟩

/-! ### .. of an own exception class; an exception's value -/
/-- what is known of an exception class -/
structure XCl (K : PySem.W.Frag) (C : Addr) : Prop where
  cl : (PySem.W.clsIn K C).isSome = true
  ga : PySem.W.findIn K (.ref C) "__getattribute__" = some (some (.builtin "BaseException.__getattribute__"))
  gg : PySem.W.findIn K (.ref C) "__getattr__" = some none
  sub : PySem.W.subIn K (.ref C) (.type "BaseException") = some true
  hd : PySem.W.hasDictIn K C = true
  cc : PySem.W.findIn K (.ref C) "__class__" = some (some (.builtin "object.__class__"))
  mro : PySem.W.mroIn K C (.type "object") = some true
  val : PySem.W.findIn K (.ref C) "value" = some none
/-- the object class's own entry -/
structure XGen (K : PySem.W.Frag) : Prop where
  sp : PySem.W.specialIn K (.builtin "object.__class__") "__get__" = some (some (.builtin "getset_descriptor.__get__"))
  tk : PySem.W.takesIn K (.builtin "object.__class__") = some true
theorem exc_inst {pins : List (Addr × Obj)} {σ : L2.St} {s : Shared} {H : Hp} {a C dx : Addr} {x : V} (I : Inv X pins σ H s) (h1 : H a = some (ExcH a C dx)) (h2 : H dx = some (.xd [(("value" : Str), x)])) :
    ∃ (oe od : Obj) (u : Value), PySem.W.InstAt s.heap a oe C (some od) ∧ RelV x u ∧ PySem.W.lookIn "value" od = some (some u) := by
  obtain ⟨⟨oe, vs, g1, g2, g3, g4⟩, _⟩ := (show ObjOk X.prog X.w H s.heap a (ExcH a C dx) from I.hok a _ h1)
  obtain ⟨mA, hns, hr⟩ := (show ObjOk X.prog X.w H s.heap dx (.xd [(("value" : Str), x)]) from I.hok dx _ h2)
  obtain ⟨od, ho, hl⟩ := lookIn_ns hns
  obtain ⟨u, hu, ru⟩ := RelO.some_of (v := x) (o := mA "value") (by
    have q := hr "value"
    simpa using q)
  exact ⟨oe, od, u, ⟨g1, g2, by unfold PySem.W.notCls; rw [g4] <;> rfl, by rw [g3]; exact ho⟩, ru, by rw [hl, hu]⟩
theorem xe_isX {c n : Nat} {x : Str} (G : XGen X.K) (hC : ∀ c, c < n → XCl X.K (ca c)) (hk : ∀ c c', c < n → c' < n → PySem.W.kitOne X.K (.ref (ca c')) (.ref (ca c)) = some (decide (c' = c) || c == 0)) (hk0 : c < n → PySem.W.kitOne X.K (.type "NoneType") (.ref (ca c)) = some false) (hcn : c < n)
    (hg : Gl X "isinstance") (hm : X.mg "isinstance" = none) (hg2 : Gl X x) (hm2 : X.mg x = some (.ref (ca c))) (hd : (x == ("__debug__" : Str)) = false) (ha : PE X a (TEx X ca W Φ A)) (hp : plainE a = true) :
    PE X (.Call (.Name "isinstance" p2) [a, .Name x p3] [] pos) (TEx X ca W Φ (.isX A c n)) := by
  have hc : CallR X (.builtin "isinstance") (fun xs H Q => ∃ v b, xs = [v, .ref (ca c)] ∧ ((v = .non ∧ b = false) ∨ ∃ p c' dx y, v = .ref p ∧ c' < n ∧ H p = some (ExcH p (ca c') dx) ∧ H dx = some (.xd [(("value" : Str), y)]) ∧ b = (decide (c' = c) || c == 0)) ∧ Q (.bl b) H) := by
    intro pins s σ H xs us Q I r ⟨v, b, e, h, q⟩
    subst e
    obtain ⟨u1, u2, rfl, r1, r2⟩ := vals2 r
    cases (show u2 = Value.ref (ca c) from r2)
    rcases h with ⟨rfl, rfl⟩ | ⟨p, c', dx, y, rfl, hc', h1, h2, rfl⟩
    · cases (show u1 = Value.none from r1)
      exact PySem.W.kia_one PySem.W.kitx_none I.kIn True.intro (hk0 hcn) (fun z => nomatch z) fun tk => ⟨.bl false, H, I.tok tk, rfl, q⟩
    · cases (show u1 = Value.ref p from r1)
      obtain ⟨oe, od, u, J, _, _⟩ := exc_inst I h1 h2
      have Z := hC c' hc'
      exact PySem.W.kia_one (PySem.W.kitx_exc Z.cl Z.ga Z.gg Z.sub Z.cc G.sp G.tk Z.mro) I.kIn J (hk c c' hcn hc') (fun z => nomatch z) fun tk => ⟨.bl _, H, I.tok tk, rfl, q⟩
  have hpa : PA X [a, .Name x p3] (tCons (TEx X ca W Φ A) (tCons (tC (.ref (ca c))) tNil)) := pa_cons ha (pa_cons (pe_glob hg2 hm2 rfl hd) pa_nil) (star_cons hp)
  refine (pe_callB hc hg hm (by decide +kernel) hpa (by decide) (by decide) (star_cons hp) (by rfl)).imp fun σ H Q h => ?_
  refine rd_bind (m := den Φ A) h fun μ1 env st1 x H1 vx rs1 re1 r1 h1 => ?_
  cases r1 with
  | non => exact ⟨.non, false, rfl, .inl ⟨rfl, rfl⟩, h1.here rs1 (.bl _)⟩
  | ref hn2 =>
    rename_i k p
    obtain ⟨o, ho, ro⟩ := rs1.obj hn2
    simp only [ho] at h1
    cases o with
    | exc c' v =>
      simp only at h1
      split at h1
      · rename_i hcc
        obtain ⟨dx, y, e1, e2, _⟩ := ro
        exact ⟨.ref p, _, rfl, .inr ⟨p, c', dx, y, rfl, hcc.2, e1, e2, rfl⟩, h1.here rs1 (.bl _)⟩
      · exact False.elim h1
    | _ => exact False.elim h1
  | _ => exact False.elim h1
theorem xe_val {n : Nat} (hC : ∀ c, c < n → XCl X.K (ca c)) (ha : PE X a (TEx X ca W Φ A)) (hb : attributeBase a "value" X.env (eval a X.env) = eval a X.env) : PE X (.Attribute a "value" pos) (TEx X ca W Φ (.val A n)) := by
  refine ⟨fun pins s σ H Q I h => ?_⟩
  refine attr_of hb (thn (ha.run pins s σ H (fun v H1 => ∃ p c dx y, v = .ref p ∧ c < n ∧ H1 p = some (ExcH p (ca c) dx) ∧ H1 dx = some (.xd [(("value" : Str), y)]) ∧ Q y H1) I ?_) fun u s1 ⟨v, H1, I1, r1, p, c, dx, y, ev, hc, h1, h2, q⟩ => ?_)
  · refine rd_bind (m := den Φ A) h fun μ1 env st1 x H1 vx rs1 re1 r1 h1 => ?_
    cases r1 with
    | ref hn2 =>
      rename_i k p
      obtain ⟨o, ho, ro⟩ := rs1.obj hn2
      simp only [ho] at h1
      cases o with
      | exc c v =>
        simp only at h1
        split at h1
        · rename_i hcc
          obtain ⟨dx, y, e1, e2, _, r2⟩ := ro
          exact ⟨p, c, dx, y, rfl, hcc, e1, e2, h1.here rs1 r2⟩
        · exact False.elim h1
      | _ => exact False.elim h1
    | _ => exact False.elim h1
  · subst ev
    obtain rfl : u = Value.ref p := r1
    obtain ⟨oe, od, u, J, ru, hl⟩ := exc_inst I1 h1 h2
    have Z := hC c hc
    exact HandSPX.exc_get I1.kIn J Z.ga Z.gg Z.sub (PySem.W.findObj_own Z.hd Z.val rfl hl) (handed_of ru) ⟨y, H1, I1.tok _, ru, q⟩

/-! ### list(range(n)) -/
theorem den_bi1 (f : Bi) (A : E) : den Φ (.bi f [A]) = fun env => M.bind (den Φ A env) fun x => biD f [x] := by
  funext env
  show M.bind (M.bind (den Φ A env) fun x => M.bind (M.pure []) fun xs => M.pure (x :: xs)) (biD f) = _
  rw [M.bind_assoc]; rfl
theorem xe_lrange {pos2 : Pos} (hc : X.calm = true) (hg : Gl X "list") (hm : X.mg "list" = none) (hg2 : Gl X "range") (hm2 : X.mg "range" = none) (ha : PE X a (TEx X ca W Φ A)) (hp : plainE a = true) :
    PE X (.Call (.Name "list" p2) [.Call (.Name "range" p3) [a] [] pos] [] pos2) (TEx X ca W Φ (.bi .lrange [A])) :=
  (pe_listRg hc hg hm (prg_1 hg2 hm2 ha (star_cons hp))).imp fun σ H Q h => by
    have h : rd X.K X.w ca W (RV X.K) (den Φ (.bi .lrange [A])) σ H Q := h
    rw [den_bi1] at h
    refine rd_bind (m := den Φ A) h fun μ1 env st1 x H1 vx rs1 re1 r1 h1 => ?_
    cases r1 with
    | int i =>
      refine ⟨i, rfl, ?_⟩
      simp only [biD] at h1
      split at h1
      · rename_i hs
        obtain ⟨s1, s2⟩ := small_iff hs
        have r : RVs X.K μ1 H1 ((List.range i.toNat).map fun j => .int (j : Nat)) (rgV 0 i) := by
          unfold rgV
          have : ∀ l : List Nat, RVs X.K μ1 H1 (l.map fun j => Mi.D.int (j : Nat)) (l.map fun j => V.int (0 + (j : Nat))) := fun l => by
            induction l with
            | nil => exact .nil
            | cons j l ih => rw [List.map_cons, List.map_cons, Int.zero_add]; exact .cons (.int _) ih
          rw [Int.sub_zero]; exact this _
        obtain ⟨q1, q2⟩ := Po.newL h1 rs1 r
        refine ⟨⟨by decide, by decide, s1, s2, ?_⟩, q2⟩
        rw [List.length_map, List.length_range] at q1
        rw [sizeLine_eq] at q1
        omega
      · exact False.elim h1
    | _ => exact False.elim h1
end
end Mi

set_option Elab.async false
set_option linter.all false
set_option maxRecDepth 100000
set_option maxHeartbeats 2000000
/-! Mi, part P: displays of dicts. -/
namespace Mi
open PySem PySem.Spec PyProof.Rows L2

/-! ### an object beside the store is written -/
section
variable {K : PySem.W.Frag} {w : World} {ca : Ca} {μ : List Addr} {H : Hp} {st : Sto} {d : Addr} {u u' : HO}
theorem Wd.sideG (hd : H d = some u) (p : Plain d u) : Wd K μ H μ (upd H d u') := ⟨fun _ _ z => z, fun _ _ h => sqt_plain hd p h, fun _ _ h => sqf_plain hd p h⟩
theorem RS.sideG (rs : RS K w ca μ st H) (hm : d ∉ μ) (hd : H d = some u) (p : Plain d u) (nx : ∀ fs, u ≠ .xd fs) : RS K w ca μ st (upd H d u') := by
  refine ⟨rs.len, rs.nd, fun n o a e1 e2 => ?_, tabs_upd rs.tab hd p⟩
  have r0 := rs.at_ n o a e1 e2
  have hne : a ≠ d := fun z => hm (z ▸ List.mem_of_getElem? e2)
  have t : Wd K μ H μ (upd H d u') := Wd.sideG hd p
  cases o with
  | lst xs => obtain ⟨us, e, q⟩ := r0; exact ⟨us, by rw [upd_ne hne]; exact e, q.wid t⟩
  | dic kvs ep => obtain ⟨es, e, a1, a2, a3, q⟩ := r0; exact ⟨es, by rw [upd_ne hne]; exact e, a1, a2, a3, Paired.map2 q fun _ _ z => z.wid t⟩
  | exc c v =>
    obtain ⟨dx, y, e, a0, a2, q⟩ := r0
    exact ⟨dx, y, by rw [upd_ne hne]; exact e, by rw [upd_ne (fun z => by rw [z, hd] at a0; exact nx _ (Option.some.inj a0))]; exact a0, a2, q.wid t⟩
theorem Xt.sideG {μ1 : List Addr} {H1 : Hp} (x : Xt K μ1 H1 μ H) (h1 : H1 d = none) (hd : H d = some u) (p : Plain d u) : Xt K μ1 H1 μ (upd H d u') :=
  ⟨x.pre, fun a o e n nt => by rw [upd_ne (ne_of_none e h1)]; exact x.keep a o e n nt, fun a us h => sqt_plain hd p (x.tup a us h), fun a us h => sqf_plain hd p (x.frz a us h)⟩
end

section
variable {X : Cx} {ca : Ca} {W : XK} {Φ : Nat → List D → M D} {A B : E} {As : List E} {pos : Pos}
/-- the pairs of a display, evaluated -/
def PPx (X : Cx) (pos : Pos) (keys : List (Option Expr)) (values : List Expr) (t : TA) : Prop :=
  ∀ (pins : List (Addr × Obj)) (s : Shared) (σ : L2.St) (H : Hp) (Q : List V → Hp → Prop), Inv X pins σ H s → t σ H Q →
    wpAny (model X.prog X.w) X.A (evalPairs (pairTrees keys values X.env pos)) (fun ps s' => ∃ vs H', Inv X pins σ H' s' ∧ Vals vs (ps.flatMap fun p => [p.1, p.2]) ∧ Q vs H') X.xe s
theorem ppx_nil : PPx X pos [] [] (TAx X ca W Φ []) := fun pins s σ H Q I ⟨μ, env, st, rs, re, h⟩ => pairTrees_nil_walk ⟨[], H, I, .nil, h.here rs .nil⟩
theorem ppx_cons {k v : Expr} {ks : List (Option Expr)} {vs : List Expr} (hk : PE X k (TEx X ca W Φ A)) (hv : PE X v (TEx X ca W Φ B)) (hr : PPx X pos ks vs (TAx X ca W Φ As)) : PPx X pos (some k :: ks) (v :: vs) (TAx X ca W Φ (A :: B :: As)) := fun pins s σ H Q I h => by
  refine pairTrees_cons_walk (thn (hk.run pins s σ H (fun x H1 => TEx X ca W Φ B σ H1 fun y H2 => TAx X ca W Φ As σ H2 fun xs H3 => Q (x :: y :: xs) H3) I ?_) fun u s1 ⟨x, H1, I1, rx, q1⟩ => thn (hv.run pins s1 σ H1 _ I1 q1) fun u2 s2 ⟨y, H2, I2, ry, q2⟩ => thn (hr pins s2 σ H2 _ I2 q2) fun ps s3 ⟨xs, H3, I3, r3, q3⟩ => ⟨x :: y :: xs, H3, I3, .cons rx (.cons ry r3), q3⟩)
  have h : rd X.K X.w ca W (RVs X.K) (fun env => M.bind (den Φ A env) fun x => M.bind (M.bind (den Φ B env) fun y => M.bind (dens Φ As env) fun ys => M.pure (y :: ys)) fun xs => M.pure (x :: xs)) σ H Q := h
  refine rd_bind (m := den Φ A) h fun μ1 env st1 x H1 vx rs1 re1 r1 h1 => ?_
  rw [M.bind_assoc] at h1
  refine ⟨μ1, env, st1, rs1, re1, Po.bi h1 fun y st2 μ2 H2 vy _ x2 rs2 r2 h2 => ?_⟩
  rw [M.bind_assoc] at h2
  exact ⟨μ2, env, st2, rs2, re1.mono x2, Po.bi h2 fun zs st3 μ3 H3 vzs _ x3 rs3 r3 h3 => h3.here rs3 (.cons ((r1.mono x2).mono x3) (.cons (r2.mono x3) r3))⟩
/-- the pairs are stored, one after another -/
theorem store_pairs {pins : List (Addr × Obj)} {σ : L2.St} {d : Addr} {μ0 μ : List Addr} {H0 : Hp} {st : Sto} {E : Value → Shared → Prop} (hu : X.A.units + 65 < cLine) (hs : (d == sysModules) = false) (h0 : H0 d = none) (hm : d ∉ μ) :
    ∀ (ps : List (Value × Value)) (vs : List V) (ds : List D) (kvs kvs' : List (D × D)) (es : Array DictEntry) (H : Hp) (s : Shared) (Q : PUnit → Shared → Prop), Vals vs (ps.flatMap fun p => [p.1, p.2]) → RVs X.K μ H ds vs → dicOf ds kvs = some kvs' →
      Inv X pins σ H s → Xt X.K μ0 H0 μ H → RS X.K X.w ca μ st H → H d = some (RawD d es kvs.length) → (kvs.map (·.1)).Nodup → Paired (EntR X.K X.w μ H) kvs es.toList → kvs.length + ps.length ≤ sizeLine →
      (∀ H' s' es', Inv X pins σ H' s' → Xt X.K μ0 H0 μ H' → RS X.K X.w ca μ st H' → H' d = some (RawD d es' kvs'.length) → (kvs'.map (·.1)).Nodup → Paired (EntR X.K X.w μ H') kvs' es'.toList → kvs'.length ≤ sizeLine → Q PUnit.unit s') →
      wpAny (model X.prog X.w) X.A (forIn ps PUnit.unit fun (x : Value × Value) (_ : PUnit) => (do dictSet d x.1 x.2; pure (ForInStep.yield PUnit.unit) : Sem (ForInStep PUnit))) Q E s
  | [], vs, ds, kvs, kvs', es, H, s, Q, rv, rd, hd, I, x, rs, e, nd, hp, hz, hq => by
    rw [List.forIn_nil]
    cases rv
    cases rd
    cases hd
    exact wpAny_pure (hq H s es I x rs e nd hp (by simpa using hz))
  | (k, v) :: ps, vs, ds, kvs, kvs', es, H, s, Q, rv, rd, hd, I, x, rs, e, nd, hp, hz, hq => by
    rw [List.forIn_cons]
    cases rv with
    | cons rk rv =>
      cases rv with
      | cons rv rr =>
        cases rd with
        | @cons k0 _ _ _ dk rd =>
          cases rd with
          | @cons v0 _ _ _ dv dr =>
            unfold dicOf at hd
            split at hd
            · rename_i hk
              obtain ⟨o, g1, g2, g3⟩ := rawD_at I.hok e
              obtain ⟨as, rd⟩ := key_reads I (dictOk_key hk) dk rk
              rw [List.length_cons] at hz
              refine wpAny_bind (wpAny_bind (dset_raw (by omega) g1 g2 g3 (entH_of I hp) nd hk (by omega) rd fun h' tk o' k1 k2 k3 sb => wpAny_pure ?_))
              have l1 := dput_len kvs k0 v0
              have hlen : (if (dget kvs k0).isSome then kvs.length else kvs.length + 1) = (dput kvs k0 v0).length := by
                cases e1 : didx kvs k0 with
                | none => rw [(dget_none e1).1, (dget_none e1).2 v0]; simp
                | some j => obtain ⟨u, _, h2, h3⟩ := dget_some e1; rw [h2, h3 v0]; simp
              rw [hlen] at k3
              have hx : ∀ fs, RawD d es kvs.length ≠ .xd fs := fun fs z => by unfold RawD at z; cases z
              have I2 : Inv X pins σ (upd H d (RawD d (putE X.w kvs k0 es k v) (dput kvs k0 v0).length)) { s with heap := h', toks := tk } :=
                I.write (t' := tk) (x := d) (e := d) (by rw [e]; exact trivial) (.inl rfl) (fun b ob hb hob => (sb.2 b hb).trans hob) ⟨o', k1⟩ (rawD_ok k1 k2 k3)
              have wd : Wd X.K μ H μ (upd H d (RawD d (putE X.w kvs k0 es k v) (dput kvs k0 v0).length)) := Wd.sideG e plain_raw
              exact store_pairs hu hs h0 hm ps _ _ (dput kvs k0 v0) kvs' _ _ _ Q rr (dr.wid wd) hd I2 (x.sideG h0 e plain_raw) (rs.sideG hm e plain_raw hx) upd_same (dput_keys kvs k0 v0 nd)
                (ent_put (Paired.map2 hp fun _ _ z => z.wid wd) hk rk (dk.wid wd) rv (dv.wid wd)) (by omega) hq
            · cases hd
theorem flat2_len : ∀ ps : List (Value × Value), (ps.flatMap fun p => [p.1, p.2]).length = 2 * ps.length
  | [] => rfl
  | p :: ps => by rw [List.flatMap_cons, List.length_append, flat2_len ps]; simp; omega
theorem xe_dict {keys : List (Option Expr)} {values : List Expr} (hu : X.A.units + 65 < cLine) (hp : PPx X pos keys values (TAx X ca W Φ As)) (hall : keys.all (·.isSome) = true) (hl : keys.length = values.length) (h0 : keys ≠ []) (h15 : keys.length ≤ 15) :
    PE X (.Dict keys values pos) (TEx X ca W Φ (.dic As)) := by
  refine ⟨fun pins s σ H Q I ⟨μ, env, st, rs, re, h⟩ => ?_⟩
  have hn := pairTrees_length keys values X.env pos hall hl
  have hne : pairTrees keys values X.env pos ≠ [] := fun z => by
    rw [z] at hn
    exact h0 (List.length_eq_zero_iff.mp hn.symm)
  rw [arm_eval_Dict, zip_pairTrees keys values X.env pos hall hl, dictDisplay_pairs _ hne (by omega)]
  refine wpAny_bind (wpAny_standAt (wpAny_bind ?_))
  unfold subDict
  refine wpAny_bind (wpAny_alloc ?_)
  refine wpAny_bind (wpAny_holding ?_)
  rw [if_pos (by omega)]
  have hnA : H s.heap.objs.size = none := I.hok.fresh (Nat.le_refl _)
  have hsys : (s.heap.objs.size == sysModules) = false := beq_eq_false_iff_ne.mpr (Ne.symm (Nat.ne_of_lt I.big))
  generalize hd : s.heap.objs.size = d at hnA hsys
  have I1 : Inv X pins σ (upd H d (RawD d #[] 0)) { s with heap := s.heap.push { cls := .type "dict", data := .dict #[] } } := by
    rw [← hd]
    exact I.laid (a := s.heap.objs.size) (o := RawD s.heap.objs.size #[] 0) (t' := s.toks) (fun _ _ q => Heap.get?_push_of_some _ q) (Nat.le_refl _) (rawD_ok (Heap.get?_push_size _ rfl) ⟨rfl, rfl, rfl⟩ rfl)
  refine wpAny_bind (thn (hp pins _ σ _ (fun vs H1 => ∃ μ1 st1 ds, RS X.K X.w ca μ1 st1 H1 ∧ RVs X.K μ1 H1 ds vs ∧ Xt X.K μ H μ1 H1 ∧ H1 d = some (RawD d #[] 0) ∧ d ∉ μ1 ∧ ds.length ≤ 30 ∧ ∃ kvs, dicOf ds [] = some kvs ∧ Po X.K X.w ca W (RV X.K) μ H (alloc (.dic kvs kvs.length) st1) Q) I1 ?_) fun ps s2 ⟨vs, H2, I2, rv, μ1, st1, ds, rs1, rds, x1, e1, hm1, hz, kvs, hkv, q⟩ => ?_)
  · -- the reading: the pairs are evaluated beside the new dict
    have x0 : Xt X.K μ H μ (upd H d (RawD d #[] 0)) := .new hnA
    refine ⟨μ, env, st, rs.new hnA, re.mono x0, ?_⟩
    have h : Po X.K X.w ca W (RV X.K) μ H ((dens Φ As env st).bind fun ds => match dicOf ds [] with
      | some kvs => if ds.length ≤ 30 then alloc (.dic kvs kvs.length) else M.no
      | none => M.no) Q := h
    cases e : dens Φ As env st with
    | no => rw [e] at h; exact h
    | exc c v s' => rw [e] at h; exact Po.shift x0 h
    | ok ds s' =>
      rw [e] at h
      intro μ1 H1 vs x rs1 r1
      have hm : d ∉ μ := rs.fresh hnA
      have k1 := x.keep d _ upd_same hm (fun ps z => by unfold RawD at z; cases z)
      have k2 := x.out upd_same (fun ps z => by unfold RawD at z; cases z) hm
      have h : Po X.K X.w ca W (RV X.K) μ H ((match dicOf ds [] with
        | some kvs => if ds.length ≤ 30 then alloc (.dic kvs kvs.length) else M.no
        | none => M.no) s') Q := h
      cases ed : dicOf ds [] with
      | none => rw [ed] at h; exact False.elim h
      | some kvs =>
        rw [ed] at h
        simp only at h
        split at h
        · rename_i h30
          exact ⟨μ1, s', ds, rs1, r1, x0.trans x, k1, k2, h30, kvs, ed, h⟩
        · exact False.elim h
  · have hlen : ps.length ≤ 15 := by
      have := rv.length
      rw [flat2_len, ← rds.length] at this
      omega
    refine wpAny_holding (wpAny_bind (store_pairs hu hsys hnA hm1 ps vs ds [] kvs #[] H2 s2 _ rv rds hkv I2 x1 rs1 e1 List.nodup_nil .nil (by rw [sizeLine_eq]; simp; omega) fun H3 s3 es I3 x3 rs3 e3 nd3 hp3 hz3 => wpAny_pure (wpAny_pure (wpAny_pure ?_))))
    refine ⟨.ref d, H3, I3, rfl, ?_⟩
    refine q (μ1 ++ [d]) H3 (.ref d) (x3.adopt hnA) (rs3.adopt hm1 (fun fs z => by rw [e3] at z; unfold RawD at z; cases z) ⟨es, e3, hsys, hz3, nd3, Paired.map2 hp3 fun _ _ z => z.wid (Wd.snoc d)⟩) (.ref ?_)
    rw [← rs3.len, List.getElem?_append_right (Nat.le_refl _)]; simp
theorem xe_dict0 : PE X (.Dict [] [] pos) (TEx X ca W Φ (.dic [])) := by
  refine ⟨fun pins s σ H Q I ⟨μ, env, st, rs, re, h⟩ => ?_⟩
  have hnA : H s.heap.objs.size = none := I.hok.fresh (Nat.le_refl _)
  have hsys : (s.heap.objs.size == sysModules) = false := beq_eq_false_iff_ne.mpr (Ne.symm (Nat.ne_of_lt I.big))
  have I1 : Inv X pins σ (upd H s.heap.objs.size (RawD s.heap.objs.size #[] 0)) { s with heap := s.heap.push { cls := .type "dict", data := .dict #[] } } :=
    I.laid (a := s.heap.objs.size) (o := RawD s.heap.objs.size #[] 0) (t' := s.toks) (fun _ _ q => Heap.get?_push_of_some _ q) (Nat.le_refl _) (rawD_ok (Heap.get?_push_size _ rfl) ⟨rfl, rfl, rfl⟩ rfl)
  refine wpAny_Dict_empty ⟨.ref s.heap.objs.size, _, I1, rfl, ?_⟩
  have h : Po X.K X.w ca W (RV X.K) μ H (.ok (.ref st.length) (st ++ [.dic [] 0])) Q := h
  refine h _ _ _ (.lay hnA) (rs.lay hnA ⟨#[], upd_same, hsys, Nat.zero_le _, List.nodup_nil, .nil⟩) (.ref ?_)
  rw [← rs.len, List.getElem?_append_right (Nat.le_refl _)]; simp
end
end Mi

set_option Elab.async false
set_option linter.all false
set_option maxRecDepth 100000
set_option maxHeartbeats 2000000
/-! Mi, part Q: sorted. -/
namespace Mi
open PySem PySem.Spec PyProof.Rows L2
open PySem.W (alike alikeAll dataLt keyToks keyToksAll)

/-! ### sorting, in plain -/
section
variable {lt : D → D → Bool}
theorem insD_split (O : SrtO.Swo lt) (y : D) : ∀ {l : List D}, SrtO.Srtd lt l → ∃ M N, l = M ++ N ∧ insD lt y l = M ++ y :: N ∧ (∀ x ∈ M, lt y x = false) ∧ ∀ x ∈ N, lt y x = true
  | [], _ => ⟨[], [], rfl, rfl, (fun _ h => by cases h), fun _ h => by cases h⟩
  | z :: zs, h => by
    cases e : lt y z with
    | true => exact ⟨[], z :: zs, rfl, by simp [insD, e], (fun _ h => by cases h), O.lt_all h e⟩
    | false =>
      obtain ⟨M, N, e1, e2, h1, h2⟩ := insD_split O y (List.pairwise_cons.mp h).2
      refine ⟨z :: M, N, by rw [e1]; rfl, by simp [insD, e, e2], fun x hx => ?_, h2⟩
      rcases List.mem_cons.mp hx with rfl | hx
      · exact e
      · exact h1 x hx
theorem srtD_go (O : SrtO.Swo lt) : ∀ (r acc done : List D), SrtO.Srtd lt acc → SrtO.Stb lt acc done → SrtO.Srtd lt (r.foldl (fun acc y => insD lt y acc) acc) ∧ SrtO.Stb lt (r.foldl (fun acc y => insD lt y acc) acc) (done ++ r)
  | [], acc, done, h1, h2 => by simpa using ⟨h1, h2⟩
  | y :: r, acc, done, h1, h2 => by
    obtain ⟨M, N, e1, e2, k1, k2⟩ := insD_split O y h1
    subst e1
    have := srtD_go O r (insD lt y (M ++ N)) (done ++ [y]) (by rw [e2]; exact SrtO.ins_srtd O h1 k1 k2) (by rw [e2]; exact SrtO.ins_stb O k2 h2)
    simpa using this
theorem srtD_ok (O : SrtO.Swo lt) (xs : List D) : SrtO.Srtd lt (srtD lt xs) ∧ SrtO.Stb lt (srtD lt xs) xs := by
  have := srtD_go O xs [] [] List.Pairwise.nil (SrtO.Stb.refl [])
  rw [List.nil_append] at this
  exact this
theorem srtD_uniq (O : SrtO.Swo lt) {xs ys : List D} (h1 : SrtO.Srtd lt ys) (h2 : SrtO.Stb lt ys xs) : ys = srtD lt xs := by
  obtain ⟨k1, k2⟩ := srtD_ok O xs
  exact SrtO.stb_uniq O h1 k1 ⟨h2.perm.trans k2.perm.symm, fun x => (h2.cls x).trans (k2.cls x).symm⟩
theorem insD_congr {lt' : D → D → Bool} {y : D} : ∀ {l : List D}, (∀ z ∈ l, lt y z = lt' y z) → insD lt y l = insD lt' y l
  | [], _ => rfl
  | z :: zs, h => by
    have e := insD_congr (l := zs) fun x hx => h x (by simp [hx])
    simp only [insD, h z (by simp), e]
theorem insD_mem {y x : D} : ∀ {l : List D}, x ∈ insD lt y l ↔ x = y ∨ x ∈ l
  | [] => by simp [insD]
  | z :: zs => by
    simp only [insD]
    split
    · simp
    · simp only [List.mem_cons, insD_mem]
      constructor
      · rintro (h | h | h) <;> simp [h]
      · rintro (h | h | h) <;> simp [h]
theorem srtD_congr_go {lt' : D → D → Bool} : ∀ (r acc : List D), (∀ x ∈ acc ++ r, ∀ y ∈ acc ++ r, lt x y = lt' x y) → r.foldl (fun acc y => insD lt y acc) acc = r.foldl (fun acc y => insD lt' y acc) acc
  | [], _, _ => rfl
  | y :: r, acc, h => by
    simp only [List.foldl_cons]
    rw [← insD_congr (lt := lt) (lt' := lt') fun z hz => h y (by simp) z (by simp [hz])]
    refine srtD_congr_go r _ fun x hx z hz => h x ?_ z ?_
    · rw [List.mem_append, insD_mem] at hx
      rcases hx with (hx | hx) | hx <;> simp [hx]
    · rw [List.mem_append, insD_mem] at hz
      rcases hz with (hx | hx) | hx <;> simp [hx]
theorem srtD_congr {lt' : D → D → Bool} {xs : List D} (h : ∀ x ∈ xs, ∀ y ∈ xs, lt x y = lt' x y) : srtD lt xs = srtD lt' xs := srtD_congr_go xs [] (by simpa using h)
end

/-! ### the order of the kit's data -/
def ltP (x y : D) : Bool := dataLt (toP x) (toP y)
theorem swo_ltP : SrtO.Swo ltP where
  asym x y h := by
    cases e : ltP y x with
    | false => rfl
    | true => exact absurd (PyProof.Rows.lex_trans _ _ _ h e) (by rw [PyProof.Rows.lex_irrefl]; simp)
  tr x y z h1 h2 := by
    cases e : ltP z x with
    | false => rfl
    | true =>
      rcases PyProof.Rows.lex_negTrans _ (keyToks (toP y)) _ e with q | q
      · exact (Bool.false_ne_true (h2.symm.trans q)).elim
      · exact (Bool.false_ne_true (h1.symm.trans q)).elim
theorem alike_of : ∀ (n : Nat) (x y : D), cmpOk n x y = true → alike (toP x) (toP y) = true
  | 0, _, _, h => by simp [cmpOk] at h
  | n + 1, x, y, h => by
    have seq : ∀ (xs ys : List D), allZ (cmpOk n) xs ys = true → alikeAll (toPs xs) (toPs ys) = true := by
      intro xs
      induction xs with
      | nil => intro ys _; cases ys <;> simp [toPs, alikeAll]
      | cons x xs ih =>
        intro ys h
        cases ys with
        | nil => simp [toPs, alikeAll]
        | cons y ys =>
          simp only [allZ, Bool.and_eq_true] at h
          simp only [toPs, alikeAll, Bool.and_eq_true]
          exact ⟨alike_of n x y h.1, ih ys h.2⟩
    unfold cmpOk at h
    split at h
    · simp [toP, alike]
    · simp [toP, alike]
    · simp only [toP, alike]; exact seq _ _ h
    · cases h
theorem lt_eq : ∀ (n : Nat) (x y : D), keyOk n x = true → keyOk n y = true → cmpOk n x y = true → ltP x y = ltD n x y
  | 0, _, _, _, _, h => by simp [cmpOk] at h
  | n + 1, x, y, h1, h2, h => by
    have seq : ∀ (xs ys : List D), xs.all (keyOk n) = true → ys.all (keyOk n) = true → allZ (cmpOk n) xs ys = true → PyProof.Rows.lexLt PyProof.Rows.itemOrd (keyToksAll (toPs xs)) (keyToksAll (toPs ys)) = lexD (ltD n) xs ys := by
      intro xs
      induction xs with
      | nil => intro ys _ _ _; cases ys with
        | nil => rfl
        | cons y ys => simp only [toPs, PySem.W.toks_all_cons, keyToksAll, lexD]; rfl
      | cons x xs ih =>
        intro ys h1 h2 h
        cases ys with
        | nil => simp only [toPs, PySem.W.toks_all_cons, keyToksAll, lexD]; rfl
        | cons y ys =>
          simp only [allZ, Bool.and_eq_true] at h
          simp only [List.all_cons, Bool.and_eq_true] at h1 h2
          simp only [toPs]
          rw [PySem.W.dataLt_cons (alike_of n x y h.1), eqv_key n x y h1.1 h2.1, ih ys h1.2 h2.2 h.2]
          have e : dataLt (toP x) (toP y) = ltD n x y := lt_eq n x y h1.1 h2.1 h.1
          simp only [lexD, e, decide_eq_true_eq]
    unfold keyOk at h1 h2
    unfold cmpOk at h
    unfold ltP ltD
    split at h
    · simp only [toP]; exact PySem.W.dataLt_int _ _
    · simp only [toP]; exact PySem.W.dataLt_str _ _
    · simp only [toP]; rw [PySem.W.dataLt_tuple]; exact seq _ _ h1 h2 h
    · cases h
theorem keyOk_up : ∀ (n : Nat) (x : D), keyOk n x = true → keyOk (n + 1) x = true
  | 0, _, h => by simp [keyOk] at h
  | n + 1, x, h => by
    unfold keyOk at h ⊢
    cases x with
    | tup xs =>
      simp only [List.all_eq_true] at h ⊢
      exact fun y hy => keyOk_up n y (h y hy)
    | _ => exact h
theorem rowD_is {x : D} (h : rowD x = true) : ∃ xs, x = .tup xs ∧ ∀ y ∈ xs, ∃ i, y = .int i := by
  unfold rowD at h
  split at h
  · rename_i xs
    refine ⟨xs, rfl, fun y hy => ?_⟩
    have := List.all_eq_true.mp h y hy
    unfold intD at this
    split at this
    · exact ⟨_, rfl⟩
    · cases this
  · cases h
theorem allZ_of {p : D → D → Bool} : ∀ {xs ys : List D}, (∀ x ∈ xs, ∀ y ∈ ys, p x y = true) → allZ p xs ys = true
  | [], _, _ => by simp [allZ]
  | _ :: _, [], _ => by simp [allZ]
  | x :: xs, y :: ys, h => by
    simp only [allZ, Bool.and_eq_true]
    exact ⟨h x (by simp) y (by simp), allZ_of fun a ha b hb => h a (by simp [ha]) b (by simp [hb])⟩
theorem sortOk_is {xs : List D} (h : sortOk xs = true) : (∀ x ∈ xs, keyOk 6 x = true) ∧ ∀ x ∈ xs, ∀ y ∈ xs, cmpOk 6 x y = true := by
  unfold sortOk at h
  rw [Bool.or_eq_true, Bool.or_eq_true] at h
  rcases h with (h | h) | h
  · have h := List.all_eq_true.mp h
    refine ⟨fun x hx => ?_, fun x hx y hy => ?_⟩
    · obtain ⟨us, rfl, ku⟩ := rowD_is (h x hx)
      simp only [keyOk, List.all_eq_true]
      intro y hy'
      obtain ⟨i, rfl⟩ := ku y hy'
      rfl
    · obtain ⟨us, rfl, ku⟩ := rowD_is (h x hx)
      obtain ⟨vs, rfl, kv⟩ := rowD_is (h y hy)
      simp only [cmpOk]
      refine allZ_of fun a ha b hb => ?_
      obtain ⟨i, rfl⟩ := ku a ha
      obtain ⟨j, rfl⟩ := kv b hb
      rfl
  · have h := List.all_eq_true.mp h
    have k : ∀ x ∈ xs, ∃ i, x = .int i := fun x hx => by
      have := h x hx
      unfold intD at this
      split at this
      · exact ⟨_, rfl⟩
      · cases this
    refine ⟨fun x hx => ?_, fun x hx y hy => ?_⟩
    · obtain ⟨i, rfl⟩ := k x hx; rfl
    · obtain ⟨i, rfl⟩ := k x hx
      obtain ⟨j, rfl⟩ := k y hy
      rfl
  · rw [Bool.and_eq_true] at h
    refine ⟨List.all_eq_true.mp h.1, fun x hx y hy => ?_⟩
    exact List.all_eq_true.mp (List.all_eq_true.mp h.2 x hx) y hy
theorem sortD_is {xs ys : List D} (h : sortD xs = some ys) : sortOk xs = true ∧ ys = srtD ltP xs := by
  unfold sortD at h
  split at h
  · rename_i k
    cases h
    obtain ⟨h1, h2⟩ := sortOk_is k
    exact ⟨k, srtD_congr fun x hx y hy => (lt_eq 6 x y (h1 x hx) (h1 y hy) (h2 x hx y hy)).symm⟩
  · cases h

/-! ### the comparisons of the sort -/
section
variable {prog : Program} {w : World} {A : Around} {E : Value → Shared → Prop} {s : Shared}
/-- v reads as the key d -/
def KeyAt (h : Heap) (v : Value) (d : D) : Prop := keyOk 6 d = true ∧ ∃ as, Reads h v (toP d) as
theorem KeyAt.uniq {h : Heap} {v : Value} {d e : D} (x : KeyAt h v d) (y : KeyAt h v e) : d = e := by
  obtain ⟨k1, as, r1⟩ := x
  obtain ⟨k2, bs, r2⟩ := y
  exact toP_inj 6 _ _ k1 k2 (SeqAt.Reads.unique _ _ _ _ _ (keyOk_lay 6 _ k1).1 r1 r2)
theorem depth6 {d : D} (h : keyOk 6 d = true) : (toP d).depth ≤ 6 := (keyOk_lay 6 d h).2
theorem toP_some {n : Nat} {d : D} (h : keyOk n d = true) : toP d ≠ .none := by
  cases n with
  | zero => simp [keyOk] at h
  | succ n => cases d <;> simp [keyOk] at h <;> simp [toP]
/-- tuple.__lt__ as sorting calls it -/
theorem call_tup_lt {xs ys : List PyData} {a b : Value} {as bs : List Addr} {Q : Value → Shared → Prop} (ra : Reads s.heap a (.tuple xs) as) (rb : Reads s.heap b (.tuple ys) bs) (h : alikeAll xs ys = true)
    (hu : A.units + min (PyData.tuple xs).depth (PyData.tuple ys).depth < cLine) (hq : Q (.bool (dataLt (.tuple xs) (.tuple ys))) s) : s.TypeIs a "tuple" ∧ wpAny (model prog w) A (call (.builtin "tuple.__lt__") [a, b]) Q E s := by
  cases ra with
  | @tuple l o vs n _ as₁ h1 h2 h3 h4 =>
    cases rb with
    | @tuple l' o' vs' n' _ bs₁ k1 k2 k3 k4 =>
      have n1 : vs.size = xs.length := by simpa using SeqAt.ReadsAll.length _ _ _ h4
      have n2 : vs'.size = ys.length := by simpa using SeqAt.ReadsAll.length _ _ _ k4
      rw [PySem.W.dataLt_tuple, ← PySem.W.firstLt_toks xs ys h, ← n1, ← n2] at hq
      obtain ⟨cls, dd, data, sl⟩ := o
      obtain ⟨cls2, dd2, data2, sl2⟩ := o'
      simp only at h2 h3 k2 k3
      subst h2 h3 k2 k3
      refine ⟨⟨_, h1, rfl⟩, ?_⟩
      refine call_meets F.slot_tuple_lt ⟨_, h1, rfl⟩ F.entry_tuple_lt (F.args_tuple_lt_2 _ _) (SeqAt.tuple_ltAt l l' vs vs' n n' dd dd2 sl sl2 (SeqAt.pairEq xs ys) (fun j => dataLt (xs.getD j .none) (ys.getD j .none))) ⟨h1, k1, fun j j1 j2 => ?_, fun j j1 j2 hj => ?_, hq⟩
      · have := PySem.W.eqAt_alikeAll xs ys A.in1 s vs.toList vs'.toList _ _ h4 k4 h (SeqAt.room_in hu) j (by simpa using j1) (by simpa using j2)
        simpa using this
      · have := PySem.W.rcLt_alikeAll xs ys A.in1 s vs.toList vs'.toList _ _ h4 k4 h (SeqAt.room_in hu) j (by simpa using j1) (by simpa using j2) hj
        simpa using this
/-- one key against another -/
theorem oneLt_key {f : Bool} {x y : D} {a b : Value} {Q : Bool → Shared → Prop} (hx : KeyAt s.heap a x) (hy : KeyAt s.heap b y) (h : cmpOk 6 x y = true) (hu : A.units + 16 < cLine) (hq : Q (ltP x y) s) : wpAny (model prog w) A (oneLt' f a b) Q E s := by
  obtain ⟨k1, as, r1⟩ := hx
  obtain ⟨k2, bs, r2⟩ := hy
  have d1 := depth6 k1
  have d2 := depth6 k2
  have al := alike_of 6 x y h
  by_cases ht : f = true ∧ ∃ xs, toP x = .tuple xs
  · obtain ⟨rfl, xs, e⟩ := ht
    obtain ⟨ys, e2⟩ : ∃ ys, toP y = .tuple ys := by
      rw [e] at al
      cases q : toP y <;> rw [q] at al <;> first | exact ⟨_, rfl⟩ | simp [alike] at al
    rw [e] at r1 d1 al
    rw [e2] at r2 d2 al
    rw [oneLt'_eq]
    simp only [if_true]
    refine wpAny_bind (wpAny_cRoomFor (by omega) ?_)
    unfold ltP at hq
    rw [e, e2] at hq
    have al' : alikeAll xs ys = true := by simpa [alike] using al
    obtain ⟨T, c⟩ := call_tup_lt (prog := prog) (w := w) (A := A) (E := E) (Q := fun v s' => wpAny (model prog w) A (match (some v : Option Value) with
      | some .notImplemented | none => (do rule "list.sort.lt-declined"; truthOfDropped (← richCompare .Lt a b) : Sem Bool)
      | some r => do return ← truthOfDropped r) Q E s') r1 r2 al' (by omega) (wpAny_truthy_bool hq)
    exact wpAny_bind (wpAny_callSpecialIfBound?_slot T F.slot_tuple_lt c)
  · refine PySem.W.oneLt_alike (f := f) (fun e xs e' => ht ⟨e, xs, e'⟩) r1 r2 al (toP_some k1) (by omega) hq
theorem cmpOk_up : ∀ (n : Nat) (x y : D), cmpOk n x y = true → cmpOk (n + 1) x y = true
  | 0, _, _, h => by simp [cmpOk] at h
  | n + 1, x, y, h => by
    have seq : ∀ (xs ys : List D), allZ (cmpOk n) xs ys = true → allZ (cmpOk (n + 1)) xs ys = true := by
      intro xs
      induction xs with
      | nil => intro ys _; simp [allZ]
      | cons x xs ih =>
        intro ys h
        cases ys with
        | nil => simp [allZ]
        | cons y ys =>
          simp only [allZ, Bool.and_eq_true] at h ⊢
          exact ⟨cmpOk_up n x y h.1, ih ys h.2⟩
    unfold cmpOk at h
    unfold cmpOk
    split at h
    · rfl
    · rfl
    · exact seq _ _ h
    · cases h
/-- tuples, place by place -/
theorem katLex_key {b : Bool} {Q : Bool → Shared → Prop} (hu : A.units + 16 < cLine) : ∀ (xs ys : List D) (i : Nat) (vs ws : List Value) (as bs : List Addr), ReadsAll s.heap vs (toPs xs) as → ReadsAll s.heap ws (toPs ys) bs → xs.all (keyOk 5) = true → ys.all (keyOk 5) = true → allZ (cmpOk 5) xs ys = true →
    ∀ fin : Bool, fin = decide (vs.length < ws.length) → Q (PyProof.Rows.lexLt PyProof.Rows.itemOrd (keyToksAll (toPs xs)) (keyToksAll (toPs ys))) s → PySem.W.KatLex prog w A b fin Q (vs.zip ws) i s
  | [], [], i, _, _, _, _, ra, rb, _, _, _, fin, hf, hq => by
    cases ra
    cases rb
    rw [PyProof.Rows.lex_irrefl] at hq
    rw [hf]
    exact PySem.W.kat_nil hq
  | [], y :: ys, i, _, _, _, _, ra, rb, _, _, _, fin, hf, hq => by
    cases ra
    cases rb
    simp only [toPs, PySem.W.toks_all_cons, keyToksAll] at hq
    rw [PyProof.Rows.lex_diff (O := PyProof.Rows.itemOrd) (by simp)] at hq
    rw [hf]
    exact PySem.W.kat_nil (by simpa [PyProof.Rows.itemLt] using hq)
  | x :: xs, [], i, _, _, _, _, ra, rb, _, _, _, fin, hf, hq => by
    cases ra
    cases rb
    simp only [toPs, PySem.W.toks_all_cons, keyToksAll] at hq
    rw [PyProof.Rows.lex_diff (O := PyProof.Rows.itemOrd) (by simp)] at hq
    rw [hf]
    exact PySem.W.kat_nil (by simpa [PyProof.Rows.itemLt] using hq)
  | x :: xs, y :: ys, i, _, _, _, _, ra, rb, h1, h2, h, fin, hf, hq => by
    simp only [allZ, Bool.and_eq_true] at h
    simp only [List.all_cons, Bool.and_eq_true] at h1 h2
    have kx := keyOk_up 5 x h1.1
    have ky := keyOk_up 5 y h2.1
    have d1 := depth6 kx
    have d2 := depth6 ky
    have al := alike_of 5 x y h.1
    simp only [toPs] at hq
    cases ra with
    | cons r rs =>
      cases rb with
      | cons r' rs' =>
        rw [PySem.W.dataLt_cons al] at hq
        rw [List.zip_cons_cons]
        refine PySem.W.kat_cons (PySem.W.eqAt_alike (toP x) (toP y) A s _ _ _ _ r r' al (by omega) prog w _ _ ?_)
        refine PySem.W.kat_go (fun e => ?_) (fun e => ?_)
        · rw [e, if_pos rfl] at hq
          exact PySem.W.kat_yes (katLex_key hu xs ys (i + 1) _ _ _ _ rs rs' h1.2 h2.2 h.2 fin (by simpa using hf) hq)
        · rw [e, if_neg (by simp)] at hq
          exact PySem.W.kat_no (oneLt_key ⟨kx, _, r⟩ ⟨ky, _, r'⟩ (cmpOk_up 5 x y h.1) hu hq)
/-- by any kind that is found -/
def KindOk (κ : SortKind) (ds : List D) : Prop := κ = general' ∨ κ = oneType' ∨ (∃ b, κ = tuples' b) ∧ ∀ d ∈ ds, tupK d = true
theorem keyLt_key {κ : SortKind} {ds : List D} {x y : D} {a b : Value} {Q : Bool → Shared → Prop} (hk : KindOk κ ds) (mx : x ∈ ds) (my : y ∈ ds) (hx : KeyAt s.heap a x) (hy : KeyAt s.heap b y) (h : cmpOk 6 x y = true) (hu : A.units + 16 < cLine) (hq : Q (ltP x y) s) : wpAny (model prog w) A (keyLt' κ a b) Q E s := by
  rcases hk with rfl | rfl | ⟨⟨f, rfl⟩, ht⟩
  · exact oneLt_key (f := false) hx hy h hu hq
  · rw [keyLt'_oneType]
    exact oneLt_key hx hy h hu hq
  · have t1 := ht x mx
    have t2 := ht y my
    obtain ⟨k1, as, r1⟩ := hx
    obtain ⟨k2, bs, r2⟩ := hy
    cases x <;> simp [tupK] at t1
    rename_i xs
    cases y <;> simp [tupK] at t2
    rename_i ys
    obtain ⟨p, o, its, n, rfl, g1, c1, e1, q1⟩ := reads_tup r1
    obtain ⟨p', o', its', n', rfl, g2, c2, e2, q2⟩ := reads_tup r2
    unfold ltP at hq
    simp only [toP] at hq
    rw [PySem.W.dataLt_tuple] at hq
    refine PySem.W.kat_lt g1 e1 g2 e2 (katLex_key hu xs ys 0 _ _ _ _ q1 q2 k1 k2 h _ (by simp) hq)

/-! ### the kind that is found -/
/-- m gives r and changes nothing -/
def Giv {α : Type} (prog : Program) (w : World) (A : Around) (s : Shared) (m : Sem α) (r : α) : Prop := ∀ (Q : α → Shared → Prop) (E : Value → Shared → Prop), Q r s → wpAny (model prog w) A m Q E s
theorem giv_mapM {α β : Type} {f : α → Sem β} {P : α → β → Prop} : ∀ (l : List α), (∀ v ∈ l, ∃ r, Giv prog w A s (f v) r ∧ P v r) → ∃ rs, Giv prog w A s (l.mapM f) rs ∧ Paired P l rs
  | [], _ => ⟨[], fun Q E h => by rw [List.mapM_nil]; exact wpAny_pure h, .nil⟩
  | x :: l, h => by
    obtain ⟨r, g, p⟩ := h x (by simp)
    obtain ⟨rs, gs, ps⟩ := giv_mapM l fun v hv => h v (by simp [hv])
    refine ⟨r :: rs, fun Q E hq => ?_, .cons p ps⟩
    rw [List.mapM_cons]
    exact wpAny_bind (g _ _ (wpAny_bind (gs _ _ (wpAny_pure hq))))
theorem key_is {d : D} (h : keyOk 6 d = true) : (∃ i, d = .int i) ∨ (∃ x, d = .str x) ∨ ∃ xs, d = .tup xs ∧ xs.all (keyOk 5) = true := by
  unfold keyOk at h
  cases d with
  | int i => exact .inl ⟨i, rfl⟩
  | str x => exact .inr (.inl ⟨x, rfl⟩)
  | tup xs => exact .inr (.inr ⟨xs, rfl, h⟩)
  | _ => cases h
theorem giv_type {v : Value} {d : D} (h : KeyAt s.heap v d) : ∃ T, Giv prog w A s (typeOf v) T := by
  obtain ⟨k, as, r⟩ := h
  rcases key_is k with ⟨i, rfl⟩ | ⟨x, rfl⟩ | ⟨xs, rfl, k⟩
  · cases r; exact ⟨.type "int", fun Q E h => PySem.W.Looks.now.here h⟩
  · cases r; exact ⟨.type "str", fun Q E h => PySem.W.Looks.now.here h⟩
  · obtain ⟨p, o, its, n, rfl, g1, c1, e1, q1⟩ := reads_tup r
    exact ⟨.type "tuple", fun Q E h => wpAny_typeOf ⟨o, g1, c1⟩ h⟩
theorem giv_one {vs : List Value} (h : ∀ v ∈ vs, ∃ T, Giv prog w A s (typeOf v) T) : ∃ r, Giv prog w A s (oneTypeOnly' vs.toArray) r := by
  obtain ⟨ts, g, _⟩ := giv_mapM (P := fun _ _ => True) vs fun v hv => by
    obtain ⟨T, g⟩ := h v hv
    exact ⟨T, g, trivial⟩
  rw [oneTypeOnly'_eq, List.mapM_toArray, map_eq_pure_bind]
  cases e : ts.toArray[0]? with
  | none =>
    refine ⟨none, fun Q E hq => wpAny_bind (wpAny_bind (g _ _ (wpAny_pure ?_)))⟩
    simp only [e]
    exact wpAny_pure hq
  | some t =>
    refine ⟨if ts.toArray.all (· == t) then some t else none, fun Q E hq => wpAny_bind (wpAny_bind (g _ _ (wpAny_pure ?_)))⟩
    simp only [e]
    exact wpAny_pure hq
theorem giv_first {v : Value} {d : D} (h : KeyAt s.heap v d) : ∃ f, Giv prog w A s (firstOfTuple' v) f ∧ (f.isSome = true → tupK d = true) ∧ ∀ u, f = some u → ∃ T, Giv prog w A s (typeOf u) T := by
  obtain ⟨k, as, r⟩ := h
  rcases key_is k with ⟨i, rfl⟩ | ⟨x, rfl⟩ | ⟨xs, rfl, k⟩
  · cases r
    refine ⟨none, fun Q E h => ?_, by simp, by simp⟩
    rw [PySem.W.kas_first_eq]
    refine wpAny_bind ((show PySem.W.Looks (model prog w) s.heap (typeOf _) (Value.type "int") from PySem.W.Looks.now).here ?_)
    rw [if_pos (by rfl)]
    exact wpAny_pure h
  · cases r
    refine ⟨none, fun Q E h => ?_, by simp, by simp⟩
    rw [PySem.W.kas_first_eq]
    refine wpAny_bind ((show PySem.W.Looks (model prog w) s.heap (typeOf _) (Value.type "str") from PySem.W.Looks.now).here ?_)
    rw [if_pos (by rfl)]
    exact wpAny_pure h
  · obtain ⟨p, o, its, n, rfl, g1, c1, e1, q1⟩ := reads_tup r
    refine ⟨its[0]?, fun Q E h => ?_, fun _ => rfl, fun u hu => ?_⟩
    · rw [PySem.W.kas_first_eq]
      refine wpAny_bind (wpAny_typeOf (T := "tuple") ⟨o, g1, c1⟩ ?_)
      rw [if_neg (by first | decide | simp)]
      exact wpAny_bind (listItems_at g1 e1 (wpAny_pure h))
    · cases xs with
      | nil =>
        simp only [toPs] at q1
        have hu : its.toList[0]? = some u := by rw [Array.getElem?_toList]; exact hu
        generalize its.toList = l at q1 hu
        cases q1
        simp at hu
      | cons x xs =>
        simp only [toPs] at q1
        have hu : its.toList[0]? = some u := by rw [Array.getElem?_toList]; exact hu
        generalize its.toList = l at q1 hu
        cases q1 with
        | cons q1 _ =>
          simp at hu
          subst hu
          exact giv_type (d := x) ⟨keyOk_up 5 x (List.all_eq_true.mp k x (by simp)), _, q1⟩
theorem giv_kind {vs : List Value} {ds : List D} (h : Paired (KeyAt s.heap) vs ds) : ∃ κ, Giv prog w A s (keyKind' vs.toArray) κ ∧ KindOk κ ds := by
  have at_ : ∀ v ∈ vs, ∃ d ∈ ds, KeyAt s.heap v d := by
    induction h with
    | nil => intro v hv; cases hv
    | cons h _ ih =>
      intro v hv
      rcases List.mem_cons.mp hv with rfl | hv
      · exact ⟨_, by simp, h⟩
      · obtain ⟨d, hd, k⟩ := ih v hv
        exact ⟨d, by simp [hd], k⟩
  obtain ⟨fs, gf, pf⟩ := giv_mapM (prog := prog) (w := w) (A := A) (s := s) (f := firstOfTuple') (P := fun v f => (∀ d, KeyAt s.heap v d → f.isSome = true → tupK d = true) ∧ ∀ u, f = some u → ∃ T, Giv prog w A s (typeOf u) T) vs fun v hv => by
    obtain ⟨d, _, k⟩ := at_ v hv
    obtain ⟨f, g, h1, h2⟩ := giv_first k
    exact ⟨f, g, fun d' k' => by rw [k'.uniq k]; exact h1, h2⟩
  have tf : ∀ f ∈ fs, ∀ u, f = some u → ∃ T, Giv prog w A s (typeOf u) T := by
    clear gf at_ h
    induction pf with
    | nil => intro f hf; cases hf
    | cons h _ ih =>
      intro f hf
      rcases List.mem_cons.mp hf with rfl | hf
      · exact h.2
      · exact ih f hf
  obtain ⟨r1, g1⟩ := giv_one (prog := prog) (w := w) (A := A) (s := s) (vs := fs.filterMap id) fun u hu => by
    obtain ⟨f, hf, e⟩ := List.mem_filterMap.mp hu
    exact tf f hf u e
  obtain ⟨r2, g2⟩ := giv_one (prog := prog) (w := w) (A := A) (s := s) (vs := vs) fun v hv => by
    obtain ⟨d, _, k⟩ := at_ v hv
    exact giv_type k
  rw [keyKind'_eq, List.mapM_toArray, map_eq_pure_bind]
  by_cases ha : (fs.toArray.all fun x => x.isSome) = true
  · refine ⟨tuples' (r1.any (· != .type "tuple")), fun Q E hq => wpAny_bind (wpAny_bind (gf _ _ (wpAny_pure ?_))), .inr (.inr ⟨⟨_, rfl⟩, ?_⟩)⟩
    · rw [if_pos ha]
      refine wpAny_bind (wpAny_rule ?_)
      have e : fs.toArray.filterMap id = (fs.filterMap id).toArray := by simp
      rw [e]
      exact wpAny_bind (g1 _ _ (wpAny_pure hq))
    · have ha' : ∀ f ∈ fs, f.isSome = true := by simpa using ha
      clear ha gf g1 g2 r1 r2 tf at_
      induction h generalizing fs with
      | nil => intro d hd; cases hd
      | cons k _ ih =>
        cases pf with
        | cons p ps =>
          intro d hd
          rcases List.mem_cons.mp hd with rfl | hd
          · exact p.1 _ k (ha' _ (by simp))
          · exact ih _ ps (fun f hf => ha' f (by simp [hf])) d hd
  · by_cases hb : ((fs.toArray[0]?.bind id).isSome) = true
    · refine ⟨general', fun Q E hq => wpAny_bind (wpAny_bind (gf _ _ (wpAny_pure ?_))), .inl rfl⟩
      rw [if_neg ha, if_pos hb]
      exact wpAny_pure hq
    · refine ⟨if r2.isSome then oneType' else general', fun Q E hq => wpAny_bind (wpAny_bind (gf _ _ (wpAny_pure ?_))), ?_⟩
      · rw [if_neg ha, if_neg hb]
        exact wpAny_bind (g2 _ _ (wpAny_pure hq))
      · split
        · exact .inr (.inl rfl)
        · exact .inl rfl
end

/-! ### sorted of a list or a tuple -/
theorem key_keeps {h h' : Heap} (kp : ∀ b o, h.get? b = some o → o.cls = .type "tuple" → h'.get? b = some o) : ∀ (n : Nat) (x : D) (v : Value) (as : List Addr), keyOk n x = true → Reads h v (toP x) as → Reads h' v (toP x) as
  | 0, _, _, _, h, _ => by simp [keyOk] at h
  | n + 1, x, v, as, hk, r => by
    have seq : ∀ (xs : List D) (l : List Value) (bs : List Addr), xs.all (keyOk n) = true → ReadsAll h l (toPs xs) bs → ReadsAll h' l (toPs xs) bs := by
      intro xs
      induction xs with
      | nil => intro l bs _ rl; simp only [toPs] at rl ⊢; cases rl; exact .nil
      | cons x xs ih =>
        intro l bs hk rl
        simp only [toPs] at rl ⊢
        simp only [List.all_cons, Bool.and_eq_true] at hk
        cases rl with
        | cons r1 r2 => exact .cons (key_keeps kp n x _ _ hk.1 r1) (ih _ _ hk.2 r2)
    unfold keyOk at hk
    cases x with
    | int i => rw [show toP (.int i) = .int i from rfl] at r ⊢; cases r; exact .int _ _
    | str x => rw [show toP (.str x) = .str x from rfl] at r ⊢; cases r; exact .str _ _
    | tup xs =>
      rw [show toP (.tup xs) = .tuple (toPs xs) from rfl] at r ⊢
      cases r with
      | tuple h1 h2 h3 h4 => exact .tuple (kp _ _ h1 h2) h2 h3 (seq xs _ _ hk h4)
    | _ => cases hk
theorem KeyAt.keeps {h h' : Heap} {v : Value} {d : D} (x : KeyAt h v d) (kp : ∀ b o, h.get? b = some o → o.cls = .type "tuple" → h'.get? b = some o) : KeyAt h' v d := by
  obtain ⟨k, as, r⟩ := x
  exact ⟨k, as, key_keeps kp 6 _ _ _ k r⟩
open Classical in
noncomputable def dOf (h : Heap) (v : Value) : D := if q : ∃ d, KeyAt h v d then Classical.choose q else .non
theorem dOf_eq {h : Heap} {v : Value} {d : D} (k : KeyAt h v d) : dOf h v = d := by
  unfold dOf
  have q : ∃ d, KeyAt h v d := ⟨d, k⟩
  rw [dif_pos q]
  exact (Classical.choose_spec q).uniq k
section
variable {prog : Program} {w : World} {A : Around} {E : Value → Shared → Prop} {s : Shared}
theorem collect_ex {it : Addr} {T : String} {o : Obj} {vs : List Value} {n : Nat} {Q : List Value → Shared → Prop} (hT : T = "list" ∨ T = "tuple") (ho : s.heap.get? it = some o) (hc : o.cls = .type T) (hd : o.data = .seq vs.toArray n)
    (h : Q vs { s with heap := (s.heap.push (seqObj "list" #[] 0)).update s.heap.objs.size (Obj.mapSeq (· ++ vs.toArray)) }) (hz : vs.length ≤ sizeLine) : wpAny (model prog w) A (collect (.ref it)) Q E s := by
  have new : (s.heap.push (seqObj "list" #[] 0)).get? s.heap.objs.size = some (seqObj "list" #[] 0) := Heap.get?_push_size _ rfl
  have old : (s.heap.push (seqObj "list" #[] 0)).get? it = some o := Heap.get?_push_of_some _ ho
  have tl : (Value.type T == Value.type "list" || Value.type T == Value.type "tuple") = true := by
    rcases hT with rfl | rfl <;> simp
  unfold collect
  refine wpAny_bind (wpAny_runValue (codeAny_builtin entry_proto_collect' ?_))
  show wpAny _ _ (newList [] >>= fun l => again (.builtin "list.__iadd__" ⟨[l, .ref it], []⟩)) _ _ s
  refine wpAny_bind (wpAny_newList (wpAny_pure ⟨Code.quiet_builtin _ (by decide +kernel), codeAny_builtin entry_list_iadd' ?_⟩))
  show wpAny _ _ (Builtin.List.listExtendWith (.ref s.heap.objs.size) (.ref it) (.ref s.heap.objs.size)) _ _ { s with heap := s.heap.push (seqObj "list" #[] 0) }
  unfold Builtin.List.listExtendWith
  refine wpAny_bind (wpAny_typeOf (T := T) ⟨o, old, hc⟩ ?_)
  rw [if_pos (by rw [Bool.or_assoc, tl, Bool.or_true])]
  refine wpAny_bind (listItems_at old hd (wpAny_bind (listItems_at (xs := #[]) (n := 0) new rfl ?_)))
  rw [if_neg (by simp)]
  have sz : ((#[] : Array Value) ++ vs.toArray).size ≤ sizeLine + 1 := by
    simp only [Array.size_append, List.size_toArray, List.length_nil]
    omega
  refine wpAny_bind (listUpdate_at (xs := #[]) (n := 0) new rfl (wpAny_pure ?_) (Nat.zero_le _) sz)
  show wpAny (model prog w) A (load s.heap.objs.size >>= _) Q E _
  refine wpAny_bind (wpAny_load (get?_update_seq new _) ?_)
  have e : ((#[] : Array Value) ++ vs.toArray).toList = vs := by simp
  show wpAny _ _ (pure ((#[] : Array Value) ++ vs.toArray).toList) Q E _
  rw [e]
  exact wpAny_pure h
theorem sorted_ex {it : Addr} {T : String} {o : Obj} {vs : List Value} {n : Nat} {ltv : Value → Value → Bool} {Q : Value → Shared → Prop} (hT : T = "list" ∨ T = "tuple") (ho : s.heap.get? it = some o) (hc : o.cls = .type T) (hd : o.data = .seq vs.toArray n) (hz : vs.length ≤ sizeLine) (O : SrtO.Swo ltv)
    (hS : 2 ≤ vs.length → ∀ (h₁ : Heap) (a : Addr), h₁.get? a = some (seqObj "list" vs.toArray 0) → (∀ b o, s.heap.get? b = some o → b ≠ a ∧ h₁.get? b = some o) → SrtO.SortableO prog w A.in1.in1 { s with heap := h₁ } a vs ltv)
    (h : ∀ (out : List Value), SrtO.Srtd ltv out → SrtO.Stb ltv out vs → Q (.ref (s.heap.objs.size + 1)) { s with heap := sortedAll s.heap vs out.toArray }) : wpAny (model prog w) A (call (.builtin "sorted") [.ref it]) Q E s := by
  refine Calls.call_function_entry kind_sorted plain_sorted entry_sorted (args_sorted1 _) ?_
  unfold Builtin.«sorted»
  refine wpAny_bind (m := checkCount "sorted" 1 1 _) (wpAny_pure (wpAny_bind (collect_ex hT ho hc hd ?_ hz)))
  refine wpAny_bind (wpAny_newList ?_ hz)
  have sz : ((s.heap.push (seqObj "list" #[] 0)).update s.heap.objs.size (Obj.mapSeq (· ++ vs.toArray))).objs.size = s.heap.objs.size + 1 := by
    rw [Heap.size_update, size_push']
  have new : (((s.heap.push (seqObj "list" #[] 0)).update s.heap.objs.size (Obj.mapSeq (· ++ vs.toArray))).push (seqObj "list" vs.toArray 0)).get? (s.heap.objs.size + 1) = some (seqObj "list" vs.toArray 0) := by
    rw [← sz]
    exact Heap.get?_push_size _ rfl
  have kp : ∀ b o, s.heap.get? b = some o → b ≠ s.heap.objs.size + 1 ∧ (((s.heap.push (seqObj "list" #[] 0)).update s.heap.objs.size (Obj.mapSeq (· ++ vs.toArray))).push (seqObj "list" vs.toArray 0)).get? b = some o := fun b o q => by
    have l := Heap.lt_size q
    refine ⟨Nat.ne_of_lt (Nat.lt_succ_of_lt l), Heap.get?_push_of_some _ ?_⟩
    rw [Heap.get?_update_ne _ _ _ _ (Nat.ne_of_lt l)]
    exact Heap.get?_push_of_some _ q
  show wpAny _ _ _ _ _ { s with heap := ((s.heap.push (seqObj "list" #[] 0)).update s.heap.objs.size (Obj.mapSeq (· ++ vs.toArray))).push (seqObj "list" vs.toArray 0) }
  rw [sz]
  refine wpAny_bind (wpAny_holding (wpAny_call_entry slot_list_sort ⟨_, new, rfl⟩ entry_list_sort (SrtO.list_sort_ord O new hz (fun h2 => hS h2 _ _ new kp) fun out h1 h2 => ⟨_, rfl, wpAny_pure ⟨_, rfl, h out h1 h2⟩⟩) (args_list_sort _)))
theorem keys_sortable {vs : List Value} {ds : List D} {a : Addr} {k : Value → D} (hk : ∀ v d, KeyAt s.heap v d → v ∈ vs → k v = d) (h : Paired (KeyAt s.heap) vs ds) (hc : ∀ x ∈ ds, ∀ y ∈ ds, cmpOk 6 x y = true) (hu : A.units + 16 < cLine) (ha : ∀ o, s.heap.get? a = some o → o.cls ≠ .type "tuple") : SrtO.SortableO prog w A s a vs fun v u => ltP (k v) (k u) := by
  intro h' kp
  have kk : ∀ v d, KeyAt s.heap v d → KeyAt h' v d := fun v d k => k.keeps fun b o e c => kp b o (fun z => ha o (z ▸ e) c) e
  have hp : Paired (KeyAt h') vs ds := by
    clear hc hk
    induction h with
    | nil => exact .nil
    | cons k _ ih => exact .cons (kk _ _ k) ih
  obtain ⟨κ, g, ok⟩ := giv_kind (prog := prog) (w := w) (A := A) (s := { s with heap := h' }) hp
  refine ⟨κ, g, fun p q hp1 hq1 => ?_⟩
  have at_ : ∀ v ∈ vs, ∃ d ∈ ds, KeyAt s.heap v d := by
    clear hp ok g hp1 hq1 hc hk
    induction h with
    | nil => intro v hv; cases hv
    | cons h _ ih =>
      intro v hv
      rcases List.mem_cons.mp hv with rfl | hv
      · exact ⟨_, by simp, h⟩
      · obtain ⟨d, hd, k⟩ := ih v hv
        exact ⟨d, by simp [hd], k⟩
  obtain ⟨x, mx, kx⟩ := at_ p.1 hp1
  obtain ⟨y, my, ky⟩ := at_ q.1 hq1
  refine keyLt_key (s := { s with heap := h' }) ok mx my (kk _ _ kx) (kk _ _ ky) (hc x mx y my) hu ⟨rfl, ?_⟩
  show ltP x y = ltP (k p.1) (k q.1)
  rw [hk _ _ kx hp1, hk _ _ ky hq1]
end
section
variable {X : Cx} {ca : Ca} {W : XK}
theorem paired_mem {α β : Type} {F : α → β → Prop} : ∀ {l : List α} {m : List β} {x : α}, Paired F l m → x ∈ l → ∃ y ∈ m, F x y
  | _, _, _, .nil, h => by cases h
  | _, _, _, .cons r t, h => by
    rcases List.mem_cons.mp h with rfl | h
    · exact ⟨_, by simp, r⟩
    · obtain ⟨y, hy, q⟩ := paired_mem t h
      exact ⟨y, by simp [hy], q⟩
theorem out_vals {μ : List Addr} {H : Hp} {h : Heap} : ∀ {out : List Value}, (∀ u ∈ out, ∃ v, RelV v u ∧ RV X.K μ H (dOf h u) v) → ∃ vs, Vals vs out ∧ RVs X.K μ H (out.map (dOf h)) vs
  | [], _ => ⟨[], .nil, .nil⟩
  | u :: out, h => by
    obtain ⟨v, r1, r2⟩ := h u (by simp)
    obtain ⟨vs, r3, r4⟩ := out_vals (out := out) fun u hu => h u (by simp [hu])
    exact ⟨v :: vs, .cons r1 r3, .cons r2 r4⟩
theorem keys_paired {pins : List (Addr × Obj)} {σ : L2.St} {H : Hp} {s : Shared} {μ : List Addr} (I : Inv X pins σ H s) : ∀ {ds : List D} {vs : List V} {us : List Value}, RVs X.K μ H ds vs → Vals vs us → (∀ d ∈ ds, keyOk 6 d = true) →
    Paired (KeyAt s.heap) us ds ∧ us.map (dOf s.heap) = ds ∧ ∀ u ∈ us, ∃ v, RelV v u ∧ RV X.K μ H (dOf s.heap u) v
  | _, _, _, .nil, .nil, _ => ⟨.nil, rfl, fun _ h => by cases h⟩
  | d :: ds, _, _, .cons r1 r2, .cons q1 q2, h => by
    obtain ⟨as, rd⟩ := key_reads I (h d (by simp)) r1 q1
    have k : KeyAt s.heap _ d := ⟨h d (by simp), as, rd⟩
    obtain ⟨p1, p2, p3⟩ := keys_paired I r2 q2 fun d hd => h d (by simp [hd])
    refine ⟨.cons k p1, by simp [dOf_eq k, p2], fun u hu => ?_⟩
    rcases List.mem_cons.mp hu with rfl | hu
    · rw [dOf_eq k]; exact ⟨_, q1, r1⟩
    · exact p3 u hu
theorem cal_sorted (hu : X.A.units + 65 < cLine) : CallR X (.builtin "sorted") (rBi X ca W .sorted) := by
  intro pins s σ H vs us Q I r ⟨μ, st, ds, rs, rd, h⟩
  obtain ⟨d, rfl⟩ := bi_one (by decide) h.ne
  obtain ⟨v, rfl, r1⟩ := rd.one
  simp only [biD] at h
  split at h
  · rename_i ys e
    obtain ⟨xs, e1, e2⟩ := Option.bind_eq_some_iff.mp e
    obtain ⟨ok, rfl⟩ := sortD_is e2
    obtain ⟨ok1, ok2⟩ := sortOk_is ok
    obtain ⟨a, vs, rfl, r2, r3⟩ := seq_of (K := X.K) rs r1 e1
    obtain rfl := Vals.ref1 r
    obtain ⟨T, o, its, n, hT, rv, ho, hc, hd, hz⟩ : ∃ (T : String) (o : Obj) (its : List Value) (n : Nat), (T = "list" ∨ T = "tuple") ∧ Vals vs its ∧ s.heap.get? a = some o ∧ o.cls = .type T ∧ o.data = .seq its.toArray n ∧ its.length ≤ sizeLine := by
      rcases r3 with ⟨_, _, r3⟩ | ⟨_, r3⟩
      · obtain ⟨its, rv, ⟨o, ho, hc, n, hd⟩, hz⟩ := I.tuple r3
        exact ⟨_, o, its, n, .inr rfl, rv, ho, hc, hd, by rw [← rv.length]; exact hz⟩
      · obtain ⟨its, rv, pl, hz⟩ := I.list r3
        obtain ⟨o, ho, hc, n, hd⟩ := pl.isList
        exact ⟨_, o, its, n, .inl rfl, rv, ho, hc, hd, by rw [← rv.length]; exact hz⟩
    obtain ⟨p1, p2, p3⟩ := keys_paired I r2 rv ok1
    have O : SrtO.Swo fun v u => ltP (dOf s.heap v) (dOf s.heap u) := ⟨fun x y h => swo_ltP.asym _ _ h, fun x y z h1 h2 => swo_ltP.tr _ _ _ h1 h2⟩
    have uu : X.A.in1.in1.units + 16 < cLine := by
      show X.A.units + 1 + 1 + 16 < cLine
      omega
    refine sorted_ex hT ho hc hd hz O (fun h2 h₁ a' ha kp => ?_) fun out h1 h2 => ?_
    · have pk : Paired (KeyAt h₁) its xs := Paired.mono (fun v d k => KeyAt.keeps k fun b o e _ => (kp b o e).2) p1
      refine keys_sortable (s := { s with heap := h₁ }) (fun v d k hv => ?_) pk ok2 uu fun o e c => ?_
      · obtain ⟨d', _, k'⟩ := paired_mem p1 hv
        have e' := dOf_eq k'
        rw [e']
        exact (KeyAt.keeps k' fun b o e _ => (kp b o e).2).uniq k
      · have z : some o = some (seqObj "list" its.toArray 0) := e.symm.trans ha
        cases z
        exact absurd (Value.type.inj c) (by decide)
    · have s1 : SrtO.Srtd ltP (out.map (dOf s.heap)) := SrtO.srtd_map h1
      have s2 : SrtO.Stb ltP (out.map (dOf s.heap)) xs := by
        have := SrtO.Stb.map swo_ltP (dOf s.heap) h2
        rw [p2] at this
        exact this
      have e : out.map (dOf s.heap) = srtD ltP xs := srtD_uniq swo_ltP s1 s2
      obtain ⟨vs', q1, q2⟩ := out_vals (X := X) (μ := μ) (H := H) (h := s.heap) (out := out) fun u hu => p3 u (h2.perm.mem_iff.mp hu)
      rw [e] at q2
      obtain ⟨_, q⟩ := Po.newL h rs q2
      obtain ⟨ep, he⟩ := PyProof.Rows.sortedAll_at s.heap its out.toArray
      refine ⟨.ref _, upd H (s.heap.objs.size + 1) (.lst vs'), I.laid (t' := s.toks) (fun _ _ => PyProof.Rows.sortedAll_old) (Nat.le_succ _) ⟨?_, out, ep, q1, he⟩, rfl, q _ (I.hok.fresh (Nat.le_succ _))⟩
      rw [q1.length, h2.len]
      exact hz
  · exact False.elim h
end
end Mi

set_option Elab.async false
set_option linter.all false
set_option maxRecDepth 100000
set_option maxHeartbeats 4000000
/-! Mi, part R: from trees to terms, and that the terms say what the trees do. -/
namespace Mi
open PySem PySem.Spec PyProof.Rows L2

/-! ### the way from trees to terms -/
structure Ct where
  N : List Str
  sc : List (Str × NameKind)
  fns : List (Str × Nat) := []
  exs : List (Str × Nat) := []
  cons : List (Str × D) := []
  nx : Nat := 0
  hd : Option Str := none
  cl : List Str := []
def Ct.look (c : Ct) (x : Str) : Option NameKind := c.sc.lookup x
def ixOf (N : List Str) (x : Str) : Option Nat := match N with
  | [] => none
  | y :: r => if y = x then some 0 else (ixOf r x).map (· + 1)
def isVis (k : Option NameKind) : Bool := match k with
  | some .local => true
  | some .cell => true
  | some .free => true
  | _ => false
def isLoc (k : Option NameKind) : Bool := match k with
  | some .local => true
  | some .cell => true
  | _ => false
def isGlob (k : Option NameKind) : Bool := match k with
  | some .globalImplicit => true
  | _ => false
def cName (c : Ct) (x : Str) : Option E :=
  if x = ("__debug__" : Str) ∨ x = ("__classdict__" : Str) then none
  else if isVis (c.look x) then (ixOf c.N x).map .var
  else if isGlob (c.look x) then (c.cons.lookup x).map .cst
  else none
def cConst : Const → Option E
  | .none => some (.cst .non)
  | .bool b => some (.cst (.bl b))
  | .int i => some (.cst (.int i))
  | .str s => some (.cst (.str s))
  | _ => none
def bopOf : Operator → Option Bop
  | .Add => some .add | .Sub => some .sub | .Mult => some .mul | .FloorDiv => some .fdiv | .Mod => some .mod | .Pow => some .pow
  | _ => none
def copOf : CmpOp → Option Cop
  | .Eq => some .eq | .NotEq => some .ne | .Lt => some .lt | .LtE => some .le | .Gt => some .gt | .GtE => some .ge
  | .Is => some .isN | .IsNot => some .notN | .In => some .mem | .NotIn => some .nmem
def tyOf (x : Str) : Option Ty :=
  if x = ("int" : Str) then some .int else if x = ("bool" : Str) then some .bool else if x = ("str" : Str) then some .str else if x = ("tuple" : Str) then some .tuple else if x = ("list" : Str) then some .list else none
def biOf (x : Str) (n : Nat) : Option Bi :=
  if n = 1 then
    (if x = ("len" : Str) then some .len else if x = ("int" : Str) then some .int else if x = ("abs" : Str) then some .abs else if x = ("sum" : Str) then some .sum else if x = ("repr" : Str) then some .repr
    else if x = ("tuple" : Str) then some .tuple else if x = ("list" : Str) then some .list else if x = ("all" : Str) then some .all else if x = ("any" : Str) then some .any else if x = ("sorted" : Str) then some .sorted else none)
  else if n = 2 then (if x = ("max" : Str) then some .max2 else if x = ("min" : Str) then some .min2 else none)
  else none
def meOf (m : Str) (n : Nat) : Option Me :=
  if m = ("append" : Str) then some .append else if m = ("extend" : Str) then some .extend else if m = ("pop" : Str) ∧ n = 0 then some .pop else if m = ("get" : Str) ∧ n = 1 then some .get else if m = ("get" : Str) ∧ n = 2 then some .get2 else none
def isSlice : Expr → Bool
  | .Slice .. => true
  | _ => false
def isSet : Expr → Bool
  | .Set .. => true
  | _ => false
def isComp : Expr → Bool
  | .ListComp .. => true
  | .SetComp .. => true
  | .DictComp .. => true
  | _ => false
/-- a comprehension's own names with their slots -/
def ownOf (N : List Str) (scope : Scope) : List (Str × Nat) := scope.names.filterMap fun p => if isLoc (some p.2) then (ixOf N p.1).map fun i => (p.1, i) else none
def scN (names : List (Str × NameKind)) : Scope := { kind := .function, names := names, isGenerator := false, isCoroutine := false }
def cellsOf (names : List (Str × NameKind)) : List Str := names.filterMap fun p => match p.2 with
  | .cell => some p.1
  | _ => none
def Ct.blk (c : Ct) (scope : Scope) : Ct := { c with sc := (relS scope (scN c.sc)).names, hd := none, cl := cellsOf scope.names }
def Ct.lam (c : Ct) (scope : Scope) : Ct := { c with sc := scope.names, hd := none, cl := [] }
/-- a name that may be stored to -/
def Ct.st (c : Ct) (x : Str) : Bool := match c.look x with
  | some .local => true
  | some .cell => c.cl.contains x
  | _ => false
def conjE (f : E → E → E) : List E → Option E
  | [] => none
  | [a] => some a
  | a :: b :: r => (conjE f (b :: r)).map (f a)
def seqE {α β : Type} (f : α → Option β) : List α → Option (List β)
  | [] => some []
  | x :: xs => match f x, seqE f xs with
    | some y, some ys => some (y :: ys)
    | _, _ => none
def alt : List (Option Expr) → List Expr → List Expr
  | some k :: ks, v :: vs => k :: v :: alt ks vs
  | _, _ => []
def cT : Nat → Ct → Expr → Option Tg
  | 0, _, _ => none
  | n + 1, c, e => match e with
    | .Name x _ => if c.st x then (ixOf c.N x).map .name else none
    | .Tuple es _ _ => if es.all plainE then (seqE (cT n c) es).map .tup else none
    | _ => none
def isTup : Expr → Bool
  | .Tuple .. => true
  | _ => false
def cI (f : Expr → Option E) (c : Ct) (tg it : Expr) : Option I := if isSet it then none else match it with
  | .Call (.Name x _) [a] [] _ => if x = ("range" : Str) ∧ isGlob (c.look x) ∧ plainE a then (f a).map .rng1 else if x = ("enumerate" : Str) ∧ isGlob (c.look x) ∧ plainE a ∧ isTup tg then (f a).map .enum else (f it).map .seq
  | .Call (.Name x _) [a, b] [] _ => if x = ("range" : Str) ∧ isGlob (c.look x) ∧ plainE a ∧ plainE b then (match f a, f b with | some A, some B => some (.rng2 A B) | _, _ => none)
    else if x = ("zip" : Str) ∧ isGlob (c.look x) ∧ plainE a ∧ plainE b ∧ isTup tg then (match f a, f b with | some A, some B => some (.zip A B) | _, _ => none) else (f it).map .seq
  | _ => (f it).map .seq
/-- a call of a name -/
def cCall (f : Expr → Option E) (c : Ct) (x : Str) (args : List Expr) : Option E :=
  if x = ("__debug__" : Str) ∨ x = ("__name__" : Str) ∨ !isGlob (c.look x) ∨ !args.all plainE then none
  else match c.fns.lookup x with
    | some i => (seqE f args).map (.call i)
    | none => if x = ("isinstance" : Str) then (match args with
        | [a, .Name t _] => if t = ("__debug__" : Str) ∨ t = ("__name__" : Str) ∨ !isGlob (c.look t) then none else (match c.exs.lookup t with
          | some i => (f a).map fun A => .isX A i c.nx
          | none => match tyOf t, f a with
            | some ty, some A => some (.isI A ty)
            | _, _ => none)
        | _ => none)
      else match x = ("list" : Str), args with
      | _, [.Call (.Name y _) [a] [] _] => if x = ("list" : Str) ∧ y = ("range" : Str) ∧ isGlob (c.look y) ∧ plainE a then (f a).map fun A => .bi .lrange [A] else (match biOf x args.length, seqE f args with
        | some b, some As => some (.bi b As)
        | _, _ => none)
      | _, _ => match biOf x args.length, seqE f args with
        | some b, some As => some (.bi b As)
        | _, _ => none
def emptyArgs (a : Arguments) : Bool := match a with
  | ⟨[], [], none, [], [], none, []⟩ => true
  | _ => false
def cE : Nat → Ct → Expr → Option E
  | 0, _, _ => none
  | n + 1, c, e => match e with
    | .Constant k _ _ => cConst k
    | .Name x _ => cName c x
    | .BinOp a op b _ => match bopOf op, cE n c a, cE n c b with
      | some o, some A, some B => some (.bin o A B)
      | _, _, _ => none
    | .UnaryOp .USub a _ => (cE n c a).map .neg
    | .UnaryOp .Not a _ => (cE n c a).map .not
    | .BoolOp .And es _ => (seqE (cE n c) es).bind (conjE .and)
    | .BoolOp .Or es _ => (seqE (cE n c) es).bind (conjE .or)
    | .Compare a [op] [b] _ => if isSet b then none else match copOf op, cE n c a, cE n c b with
      | some o, some A, some B => some (.cmp o A B)
      | _, _, _ => none
    | .Compare a [op, op'] [b, d] _ => if isSet d then none else match copOf op, copOf op', cE n c a, cE n c b, cE n c d with
      | some o, some o', some A, some B, some C => some (.chain o o' A B C)
      | _, _, _, _, _ => none
    | .IfExp t a b _ => match cE n c t, cE n c a, cE n c b with
      | some T, some A, some B => some (.ite T A B)
      | _, _, _ => none
    | .Tuple es _ _ => if es.all plainE then (seqE (cE n c) es).map .tup else none
    | .List es _ => if es.all plainE then (seqE (cE n c) es).map .lst else none
    | .Dict ks vs _ => if ks.all (·.isSome) ∧ ks.length = vs.length ∧ ks.length ≤ 15 then (seqE (cE n c) (alt ks vs)).map .dic else none
    | .Subscript a (.Slice lo hi none _) _ => match cE n c a, (match lo with | none => some none | some l => (cE n c l).map some), (match hi with | none => some none | some h => (cE n c h).map some) with
      | some A, some L, some U => some (.slice A L U)
      | _, _, _ => none
    | .Subscript a i _ => if isSlice i then none else match cE n c a, cE n c i with
      | some A, some I => some (.idx A I)
      | _, _ => none
    | .Attribute a m _ => if m = ("value" : Str) ∧ baseE a then (cE n c a).map fun A => .val A c.nx else none
    | .Call (.Name x _) [.Lambda ps b scope _] [] _ => if c.hd = some x ∧ x ≠ ("__debug__" : Str) ∧ isGlob (c.look x) ∧ emptyArgs ps ∧ LamX.lamSB (scN c.sc) scope then (cE n (c.lam scope) b).map .heard else none
    | .Call (.Name x _) args [] _ => cCall (cE n c) c x args
    | .Call (.Attribute a m p1) args [] p2 => if baseE a ∧ args.all plainE ∧ args.length < 30 ∧ (p1.endLine == p2.line) = true then (match meOf m args.length, cE n c a, seqE (cE n c) args with
      | some me, some A, some As => some (.meth me A As)
      | _, _, _ => none) else none
    | .ListComp elt [⟨tg, it, ifs, 0⟩] scope _ => if blkC c.N (scN c.sc) scope (ownOf c.N scope) = true ∧ ifs.length ≤ 1 then
        (match cT 9 (c.blk scope) tg, cI (cE n c) c tg it, seqE (cE n (c.blk scope)) ifs, cE n (c.blk scope) elt with
        | some g, some i, some ts, some e => if g.ixs.all fun i => decide (i ∈ (ownOf c.N scope).map (·.2)) then some (.comp g ((ownOf c.N scope).map (·.2)) i ts e) else none
        | _, _, _, _ => none) else none
    | _ => none

/-! ### what is known of the globals -/
def bltNames : List Str := ["len", "int", "abs", "sum", "max", "min", "repr", "tuple", "list", "sorted", "all", "any", "isinstance", "bool", "str", "range", "enumerate", "zip", "ValueError"]
structure Glob (P : Program) (w : World) (K : PySem.W.Frag) (mg : Str → Option Value) (base : Heap) (ca : Ca) (Φ : Nat → List D → M D) (k : Nat) (c : Ct) : Prop where
  fn : ∀ x i, c.fns.lookup x = some i → ∃ f fd ps, mg x = some (.ref f) ∧ PySem.W.keepIn K (.ref f) = true ∧ L2.Binds K fd ps [] ∧ FnG P w K mg base k f fd ps (spG K w ca (Φ i))
  con : ∀ x d, c.cons.lookup x = some d → ∃ u v, mg x = some u ∧ RelV v u ∧ ∀ μ H, RV K μ H d v
  blt : ∀ x ∈ bltNames, mg x = none
  gen : XGen K
  cls : ∀ i, i < c.nx → XCl K (ca i)
  kit : ∀ i j, i < c.nx → j < c.nx → PySem.W.kitOne K (.ref (ca j)) (.ref (ca i)) = some (decide (j = i) || i == 0)
  kitN : ∀ i, i < c.nx → PySem.W.kitOne K (.type "NoneType") (.ref (ca i)) = some false
  exs : ∀ x i, c.exs.lookup x = some i → i < c.nx ∧ mg x = some (.ref (ca i))
  rai : ∀ i, i < c.nx → OexC K (ca i) ∧ ∃ fI fd ps, PySem.W.findIn K (.ref (ca i)) "__init__" = some (some (.ref fI)) ∧ PySem.W.typeIn K (.ref fI) = some (.type "function") ∧ FnOk P w K mg base C8.CX0 k fI fd ps (spInit K) ∧ L2.Binds K fd ps []
/-- the helper that hears, called from a def -/
structure Hears (X : Cx) (ca : Ca) (x : Str) : Prop where
  all : ∃ (g c P CT : Addr) (pg : Arguments) (pp : Nat → Pos) (kk : Nat → Nat) (sg : Scope) (dV kV doc pm cdv ct oc : Value) (an od : Option Addr) (osl : Array (Option Value)),
    X.mg x = some (.ref g) ∧ PySem.W.keepIn X.K (.ref g) = true ∧ X.K.lookup g = some ⟨oc, od, .func (PySem.W.fnOf x x pg (heardBody pp kk) sg dV kV doc pm an cdv ct), osl⟩ ∧ PySem.W.codeIn X.K cdv x = true ∧
    L2.Binds X.K (PySem.W.fnOf x x pg (heardBody pp kk) sg dV kV doc pm an cdv ct) ["call"] [] ∧ FnScope heardN ["call"] sg ∧
    (sg.names.lookup ("call" : Str) = some .local ∧ sg.names.lookup ("caught" : Str) = some .local ∧ sg.names.lookup ("back" : Str) = some .local ∧ sg.names.lookup ("error" : Str) = some .local ∧ sg.names.lookup ("ThreadError" : Str) = some .globalImplicit) ∧
    X.mg "ThreadError" = some (.ref CT) ∧ (∀ c, PySem.W.exmOne X.K (.ref (ca c)) (.ref CT) = some true) ∧
    LamX.TabB X.base X.mg c P ∧ X.env.code = .ref c ∧ (P, X.env.qual ++ "<lambda>") ∈ ca.T ∧ (∀ p ∈ ca.T, p.1 = P → p.2 = X.env.qual ++ "<lambda>")
/-- a context in which trees are read by c; k: the defs' room -/
structure Gd (X : Cx) (ca : Ca) (W : XK) (Φ : Nat → List D → M D) (k : Nat) (c : Ct) : Prop where
  N : X.N = c.N
  nd : c.N.Nodup
  sc : X.env.scope.names = c.sc
  kind : X.env.scope.kind = .function
  calm : X.calm = true
  gu : X.A.guards = some []
  room : Room (k + 1) X.A
  room2 : c.hd ≠ none → Room (k + 3) X.A
  tk : Takes X (fun cl d _ H => W cl d H)
  cellf : ∀ x, c.cl.contains x = true → X.fn x = true
  glob : Glob X.prog X.w X.K X.mg X.base ca Φ k c
  hears : ∀ x, c.hd = some x → Hears X ca x
section
variable {X : Cx} {ca : Ca} {W : XK} {Φ : Nat → List D → M D} {k : Nat} {c : Ct}
theorem Gd.look (G : Gd X ca W Φ k c) (x : Str) : X.env.kindOf x = c.look x := by
  show X.env.scope.names.lookup x = _
  rw [G.sc]; rfl
theorem Gd.gl (G : Gd X ca W Φ k c) {x : Str} (h : isGlob (c.look x) = true) : Gl X x := by
  unfold Gl
  rw [G.look]
  unfold isGlob at h
  split at h
  · assumption
  · cases h
theorem Gd.vis (G : Gd X ca W Φ k c) {x : Str} (h : isVis (c.look x) = true) : Vis X.env.scope x := by
  have e := G.look x
  unfold isVis at h
  split at h
  · rename_i e2; exact .inl (by rw [← e2]; exact e)
  · rename_i e2; exact .inr (.inl (by rw [← e2]; exact e))
  · rename_i e2; exact .inr (.inr (by rw [← e2]; exact e))
  · cases h
theorem Gd.loc (G : Gd X ca W Φ k c) {x : Str} (h : c.st x = true) : Loc X.env.scope x ∧ (X.fn x = true ∨ X.env.scope.names.lookup x = some .local) := by
  have e := G.look x
  unfold Ct.st at h
  split at h
  · rename_i e2
    have q : X.env.scope.names.lookup x = some .local := by rw [← e2]; exact e
    exact ⟨.inl q, .inr q⟩
  · rename_i e2
    have q : X.env.scope.names.lookup x = some .cell := by rw [← e2]; exact e
    exact ⟨.inr q, .inl (G.cellf x h)⟩
  · cases h
theorem ixOf_get : ∀ {N : List Str} {x : Str} {i : Nat}, ixOf N x = some i → N[i]? = some x
  | [], _, _, h => by cases h
  | y :: r, x, i, h => by
    unfold ixOf at h
    split at h
    · rename_i e; cases h; rw [e]; rfl
    · obtain ⟨j, e, rfl⟩ := Option.map_eq_some_iff.mp h
      simpa using ixOf_get e
theorem Gd.at_ (G : Gd X ca W Φ k c) {x : Str} {i : Nat} (h : ixOf c.N x = some i) : X.N[i]? = some x := by rw [G.N]; exact ixOf_get h
theorem Gd.un (G : Gd X ca W Φ k c) : X.A.units + 65 < cLine := by have := G.room.un; omega
theorem Gd.rk (G : Gd X ca W Φ k c) : Room k X.A := G.room.mono (Nat.le_succ _)
theorem dbg_ne {x : Str} (h : ¬ x = ("__debug__" : Str)) : (x == ("__debug__" : Str)) = false := beq_eq_false_iff_ne.mpr h
theorem cld_ne {x : Str} (h : ¬ x = ("__classdict__" : Str)) : (x == ("__classdict__" : Str)) = false := beq_eq_false_iff_ne.mpr h

/-- what is to be shown of an expression -/
def Sd (X : Cx) (ca : Ca) (W : XK) (Φ : Nat → List D → M D) (e : Expr) (T : E) : Prop := PE X e (TEx X ca W Φ T) ∧ PT X e (TBx X ca W Φ T)
theorem true_plain {e : Expr} {env : Env} {whole : Sem Value} (h1 : ∀ x p, e ≠ .UnaryOp .Not x p) (h2 : ∀ op vs p, e ≠ .BoolOp op vs p) (h3 : ∀ a b c p, e ≠ .IfExp a b c p) (h4 : ∀ a b c p, e ≠ .Compare a b c p) : isTrue e env whole = (do let v ← whole; standAt e.pos; holding [v] (truthy v)) := by
  cases e <;> first | rfl | skip
  · exact absurd rfl (h2 _ _ _)
  · rename_i op x p
    cases op <;> first | rfl | exact absurd rfl (h1 _ _)
  · exact absurd rfl (h3 _ _ _ _)
  · exact absurd rfl (h4 _ _ _ _)
theorem sd_of {e : Expr} {T : E} (h : PE X e (TEx X ca W Φ T)) (ht : ∀ whole, isTrue e X.env whole = (do let v ← whole; standAt e.pos; holding [v] (truthy v))) : Sd X ca W Φ e T := ⟨h, xt_val h ht⟩
theorem takes_off {X : Cx} : Takes X (fun c d _ H => W0 c d H) := fun _ _ x => by
  obtain ⟨_, _, _, _, _, _, _, _, _, _, _, _, _, _, _, _, z⟩ := x
  exact z.elim

/-! ### names, constants -/
theorem sd_const {kc : Const} {T : E} {j : Nat} {p : Pos} (h : cConst kc = some T) : Sd X ca W Φ (.Constant kc j p) T := by
  cases kc <;> simp only [cConst] at h <;> first | (cases h; done) | skip
  all_goals (cases h; refine sd_of ?_ fun _ => rfl)
  · exact xe_cst pe_non fun _ _ => .non
  · exact xe_cst pe_bl fun _ _ => .bl _
  · exact xe_cst pe_int fun _ _ => .int _
  · exact xe_cst pe_str fun _ _ => .str _
theorem sd_name (G : Gd X ca W Φ k c) {x : Str} {T : E} {p : Pos} (h : cName c x = some T) : Sd X ca W Φ (.Name x p) T := by
  refine sd_of ?_ fun _ => rfl
  unfold cName at h
  split at h
  · cases h
  · rename_i hn
    rw [not_or] at hn
    split at h
    · rename_i hv
      obtain ⟨i, e, rfl⟩ := Option.map_eq_some_iff.mp h
      exact xe_var (G.at_ e) (G.vis hv) (dbg_ne hn.1) (cld_ne hn.2)
    · split at h
      · rename_i hg
        obtain ⟨d, e, rfl⟩ := Option.map_eq_some_iff.mp h
        obtain ⟨u, v, h1, h2, h3⟩ := G.glob.con x d e
        exact xe_cst (pe_glob (G.gl hg) h1 h2 (dbg_ne hn.1)) h3
      · cases h

/-! ### lists of expressions -/
theorem seqE_pa {f : Expr → Option E} (ih : ∀ e T, f e = some T → Sd X ca W Φ e T) : ∀ {es : List Expr} {Ts : List E}, seqE f es = some Ts → es.all plainE = true → PA X es (TAx X ca W Φ Ts)
  | [], Ts, h, _ => by cases h; exact xa_nil
  | e :: es, Ts, h, hp => by
    unfold seqE at h
    split at h
    · rename_i y ys h1 h2
      cases h
      simp only [List.all_cons, Bool.and_eq_true] at hp
      exact xa_cons (ih e y h1).1 (seqE_pa ih h2 hp.2) hp.1
    · cases h
theorem seqE_mem {α β : Type} {f : α → Option β} : ∀ {es : List α} {Ts : List β}, seqE f es = some Ts → Ts.length = es.length
  | [], _, h => by cases h; rfl
  | e :: es, Ts, h => by
    unfold seqE at h
    split at h
    · rename_i y ys h1 h2; cases h; simp [seqE_mem h2]
    · cases h
theorem sd_conj {f : Expr → Option E} (ih : ∀ e T, f e = some T → Sd X ca W Φ e T) {pos : Pos} : ∀ {es : List Expr} {Ts : List E} {T : E}, seqE f es = some Ts → conjE .and Ts = some T → PE X (.BoolOp .And es pos) (TEx X ca W Φ T) ∧ PW X (.BoolOp .And es pos) (TBx X ca W Φ T)
  | [], Ts, T, h, h2 => by cases h; cases h2
  | [a], Ts, T, h, h2 => by
    unfold seqE at h
    split at h
    · rename_i y ys h1 h3
      cases h3
      cases h
      cases h2
      exact ⟨pe_one (ih a _ h1).1, pw_and1 (ih a _ h1).2⟩
    · cases h
  | a :: b :: r, Ts, T, h, h2 => by
    unfold seqE at h
    split at h
    · rename_i y ys h1 h3
      cases h
      have hl := seqE_mem h3
      match ys, hl, h3, h2 with
      | z :: zs, _, h3, h2 =>
        unfold conjE at h2
        obtain ⟨T', e, rfl⟩ := Option.map_eq_some_iff.mp h2
        obtain ⟨q1, q2⟩ := sd_conj ih h3 e
        exact ⟨xe_and (ih a y h1).1 q1, xw_and (ih a y h1).2 q2⟩
    · cases h
theorem sd_disj {f : Expr → Option E} (ih : ∀ e T, f e = some T → Sd X ca W Φ e T) {pos : Pos} : ∀ {es : List Expr} {Ts : List E} {T : E}, seqE f es = some Ts → conjE .or Ts = some T → PE X (.BoolOp .Or es pos) (TEx X ca W Φ T) ∧ PW X (.BoolOp .Or es pos) (TBx X ca W Φ T)
  | [], Ts, T, h, h2 => by cases h; cases h2
  | [a], Ts, T, h, h2 => by
    unfold seqE at h
    split at h
    · rename_i y ys h1 h3
      cases h3
      cases h
      cases h2
      exact ⟨pe_one (ih a _ h1).1, pw_or1 (ih a _ h1).2⟩
    · cases h
  | a :: b :: r, Ts, T, h, h2 => by
    unfold seqE at h
    split at h
    · rename_i y ys h1 h3
      cases h
      have hl := seqE_mem h3
      match ys, hl, h3, h2 with
      | z :: zs, _, h3, h2 =>
        unfold conjE at h2
        obtain ⟨T', e, rfl⟩ := Option.map_eq_some_iff.mp h2
        obtain ⟨q1, q2⟩ := sd_disj ih h3 e
        exact ⟨xe_or (ih a y h1).1 q1, xw_or (ih a y h1).2 q2⟩
    · cases h
theorem alt_pp {f : Expr → Option E} (ih : ∀ e T, f e = some T → Sd X ca W Φ e T) {pos : Pos} : ∀ {ks : List (Option Expr)} {vs : List Expr} {Ts : List E}, seqE f (alt ks vs) = some Ts → ks.all (·.isSome) = true → ks.length = vs.length → PPx X pos ks vs (TAx X ca W Φ Ts)
  | [], [], Ts, h, _, _ => by cases h; exact ppx_nil
  | [], _ :: _, _, _, _, hl => by simp at hl
  | _ :: _, [], _, _, _, hl => by simp at hl
  | none :: _, _ :: _, _, _, ha, _ => by simp at ha
  | some kx :: ks, v :: vs, Ts, h, ha, hl => by
    unfold alt seqE at h
    split at h
    · rename_i y ys h1 h3
      cases h
      unfold seqE at h3
      split at h3
      · rename_i z zs h4 h5
        cases h3
        exact ppx_cons (ih kx y h1).1 (ih v z h4).1 (alt_pp ih h5 (by simpa using ha) (by simpa using hl))
      · cases h3
    · cases h

/-! ### targets, what is iterated -/
theorem sd_tg (G : Gd X ca W Φ k c) : ∀ (n : Nat) (e : Expr) (g : Tg), cT n c e = some g → PG X e (TGx X g) ∧ plainE e = true
  | 0, _, _, h => by cases h
  | n + 1, e, g, h => by
    unfold cT at h
    split at h
    · rename_i x p
      split at h
      · rename_i hl
        obtain ⟨i, e, rfl⟩ := Option.map_eq_some_iff.mp h
        obtain ⟨l1, l2⟩ := G.loc hl
        exact ⟨xg_name (by rw [G.N]; exact G.nd) (G.at_ e) l1 l2, rfl⟩
      · cases h
    · rename_i es kk p
      split at h
      · rename_i hp
        obtain ⟨gs, e, rfl⟩ := Option.map_eq_some_iff.mp h
        have go : ∀ {es : List Expr} {gs : List Tg}, seqE (cT n c) es = some gs → es.all plainE = true → PGs X es (TGsx X gs) ∧ gs.length = es.length := by
          intro es
          induction es with
          | nil => intro gs h _; cases h; exact ⟨xgs_nil, rfl⟩
          | cons e es ih =>
            intro gs h hp
            unfold seqE at h
            split at h
            · rename_i y ys h1 h2
              cases h
              have hp2 := hp
              simp only [List.all_cons, Bool.and_eq_true] at hp2
              obtain ⟨q1, q2⟩ := ih h2 hp2.2
              exact ⟨xgs_cons (sd_tg G n e y h1).1 q1 hp, by simp [q2]⟩
            · cases h
        obtain ⟨q1, q2⟩ := go e hp
        exact ⟨xg_tup G.calm q1 hp q2, rfl⟩
      · cases h
    · cases h
theorem fold_pure {e : Expr} {env : Env} (h : isSet e = false) : ∀ x, foldedSetIterable e env x = pure x := by
  intro x
  cases e <;> first | rfl | (simp [isSet] at h)
theorem tup_of {e : Expr} (h : isTup e = true) : ∃ es kk p, e = .Tuple es kk p := by
  cases e <;> first | (simp [isTup] at h; done) | exact ⟨_, _, _, rfl⟩
theorem blt_mem (G : Gd X ca W Φ k c) {x : Str} (h : x ∈ bltNames) : X.mg x = none := G.glob.blt x h
theorem sd_it (G : Gd X ca W Φ k c) {f : Expr → Option E} (ih : ∀ e T, f e = some T → Sd X ca W Φ e T) {tg it : Expr} {i : I} (h : cI f c tg it = some i) : PI X tg it (TIx X ca W Φ i) ∧ ∀ x, foldedSetIterable it X.env x = pure x := by
  unfold cI at h
  split at h
  · cases h
  · rename_i hs
    refine ⟨?_, fold_pure (by simpa using hs)⟩
    split at h
    · rename_i x p a p2 
      split at h
      · rename_i hc
        obtain ⟨rfl, hg, hp⟩ := hc
        obtain ⟨A, e, rfl⟩ := Option.map_eq_some_iff.mp h
        exact xi_rng1 (G.gl hg) (blt_mem G (by decide)) (ih a A e).1 hp
      · split at h
        · rename_i hc
          obtain ⟨rfl, hg, hp, ht⟩ := hc
          obtain ⟨es, kk, p3, rfl⟩ := tup_of ht
          obtain ⟨A, e, rfl⟩ := Option.map_eq_some_iff.mp h
          exact xi_enum (G.gl hg) (blt_mem G (by decide)) (ih a A e).1 hp
        · obtain ⟨A, e, rfl⟩ := Option.map_eq_some_iff.mp h
          exact xi_seq (ih _ A e).1
    · rename_i x p a b p2
      split at h
      · rename_i hc
        obtain ⟨rfl, hg, hp, hp'⟩ := hc
        split at h
        · rename_i A B e1 e2
          cases h
          exact xi_rng2 (G.gl hg) (blt_mem G (by decide)) (ih a A e1).1 (ih b B e2).1 hp hp'
        · cases h
      · split at h
        · rename_i hc
          obtain ⟨rfl, hg, hp, hp', ht⟩ := hc
          obtain ⟨es, kk, p3, rfl⟩ := tup_of ht
          split at h
          · rename_i A B e1 e2
            cases h
            exact xi_zip (G.gl hg) (blt_mem G (by decide)) (ih a A e1).1 (ih b B e2).1 hp hp'
          · cases h
        · obtain ⟨A, e, rfl⟩ := Option.map_eq_some_iff.mp h
          exact xi_seq (ih _ A e).1
    · obtain ⟨A, e, rfl⟩ := Option.map_eq_some_iff.mp h
      exact xi_seq (ih _ A e).1

/-! ### calls -/
def biId : Bi → Value
  | .len => .builtin "len" | .int => .type "int" | .abs => .builtin "abs" | .sum => .builtin "sum" | .max2 => .builtin "max" | .min2 => .builtin "min" | .repr => .builtin "repr"
  | .tuple => .type "tuple" | .list => .type "list" | .lrange => .type "list" | .sorted => .builtin "sorted" | .all => .builtin "all" | .any => .builtin "any"
theorem sd_bi (G : Gd X ca W Φ k c) (hsort : CallR X (.builtin "sorted") (rBi X ca W .sorted)) {x : Str} {es : List Expr} {b : Bi} {Ts : List E} {p p2 : Pos} (hb : biOf x es.length = some b) (hg : Gl X x) (hn : x ≠ "__name__") (hd : (x == ("__debug__" : Str)) = false) (hp : es.all plainE = true) (ha : PA X es (TAx X ca W Φ Ts)) :
    PE X (.Call (.Name x p) es [] p2) (TEx X ca W Φ (.bi b Ts)) := by
  have hne : ∃ e r, es = e :: r := by
    cases es with
    | nil => simp [biOf] at hb
    | cons e r => exact ⟨e, r, rfl⟩
  obtain ⟨e, r, rfl⟩ := hne
  unfold biOf at hb
  split at hb
  · (repeat' split at hb) <;> first | (cases hb; done) | skip
    all_goals (rename_i hx; subst hx; cases hb)
    · exact xe_biB cal_len hg (blt_mem G (by decide)) (by decide +kernel) ha hn hd hp
    · exact xe_biT cal_int hg (blt_mem G (by decide)) (by decide +kernel) ha hn hd hp
    · exact xe_biB cal_abs hg (blt_mem G (by decide)) (by decide +kernel) ha hn hd hp
    · exact xe_biB (cal_sum G.calm) hg (blt_mem G (by decide)) (by decide +kernel) ha hn hd hp
    · exact xe_biB (cal_repr G.gu G.un) hg (blt_mem G (by decide)) (by decide +kernel) ha hn hd hp
    · exact xe_biT cal_tuple hg (blt_mem G (by decide)) (by decide +kernel) ha hn hd hp
    · exact xe_biT cal_list hg (blt_mem G (by decide)) (by decide +kernel) ha hn hd hp
    · exact xe_biB (cal_all G.calm) hg (blt_mem G (by decide)) (by decide +kernel) ha hn hd hp
    · exact xe_biB (cal_any G.calm) hg (blt_mem G (by decide)) (by decide +kernel) ha hn hd hp
    · exact xe_biB hsort hg (blt_mem G (by decide)) (by decide +kernel) ha hn hd hp
  · split at hb
    · (repeat' split at hb) <;> first | (cases hb; done) | skip
      all_goals (rename_i hx; subst hx; cases hb)
      · exact xe_biB (cal_max2 G.calm) hg (blt_mem G (by decide)) (by decide +kernel) ha hn hd hp
      · exact xe_biB (cal_min2 G.calm) hg (blt_mem G (by decide)) (by decide +kernel) ha hn hd hp
    · cases hb
theorem sd_call (G : Gd X ca W Φ k c) (hsort : CallR X (.builtin "sorted") (rBi X ca W .sorted)) {f : Expr → Option E} (ih : ∀ e T, f e = some T → Sd X ca W Φ e T) {x : Str} {args : List Expr} {T : E} {p p2 : Pos} (h : cCall f c x args = some T) : PE X (.Call (.Name x p) args [] p2) (TEx X ca W Φ T) := by
  unfold cCall at h
  split at h
  · cases h
  · rename_i hn
    simp only [not_or, Bool.not_eq_true', Bool.not_eq_false] at hn
    obtain ⟨n1, n2, n3, n4⟩ := hn
    have hg := G.gl n3
    have hd := dbg_ne n1
    have bi : ∀ {b As}, biOf x args.length = some b → seqE f args = some As → PE X (.Call (.Name x p) args [] p2) (TEx X ca W Φ (.bi b As)) := fun {b As} h1 h2 => sd_bi G hsort h1 hg n2 hd n4 (seqE_pa ih h2 n4)
    split at h
    · rename_i i hi
      obtain ⟨Ts, e, rfl⟩ := Option.map_eq_some_iff.mp h
      obtain ⟨fa, fd, ps, h1, h2, h3, h4⟩ := G.glob.fn x i hi
      cases args with
      | nil => cases e; exact xe_call0 h4 G.gu G.rk hg h1 h2 h3 G.tk hd
      | cons a r => exact xe_call h4 G.gu G.rk hg h1 h2 h3 G.tk (seqE_pa ih e n4) hd n4
    · split at h
      · rename_i hx
        subst hx
        split at h
        · rename_i a t p3
          split at h
          · cases h
          · rename_i ht
            simp only [not_or, Bool.not_eq_true', Bool.not_eq_false] at ht
            obtain ⟨t1, t2, t3⟩ := ht
            have hpa : plainE a = true := by simp only [List.all_cons, Bool.and_eq_true] at n4; exact n4.1
            split at h
            · rename_i i hi
              obtain ⟨A, e, rfl⟩ := Option.map_eq_some_iff.mp h
              obtain ⟨e1, e2⟩ := G.glob.exs t i hi
              exact xe_isX G.glob.gen G.glob.cls (fun a b ha hb => G.glob.kit a b ha hb) (fun h => G.glob.kitN i h) e1 hg (blt_mem G (by decide)) (G.gl t3) e2 (dbg_ne t1) (ih a A e).1 hpa
            · split at h
              · rename_i ty A h1 h2
                cases h
                have hm : X.mg t = none ∧ bootBuiltins t = some (.type (tyNm ty)) := by
                  unfold tyOf at h1
                  (repeat' split at h1) <;> first | (cases h1; done) | skip
                  all_goals (rename_i hx; subst hx; cases h1; exact ⟨blt_mem G (by decide), by decide +kernel⟩)
                exact xe_isI hg (blt_mem G (by decide)) (G.gl t3) hm.1 hm.2 t2 (dbg_ne t1) (ih a A h2).1 hpa
              · cases h
        · cases h
      · split at h
        · rename_i y p3 a p4
          split at h
          · rename_i hc
            obtain ⟨rfl, rfl, hg2, hp⟩ := hc
            obtain ⟨A, e, rfl⟩ := Option.map_eq_some_iff.mp h
            exact xe_lrange G.calm hg (blt_mem G (by decide)) (G.gl hg2) (blt_mem G (by decide)) (ih a A e).1 hp
          · split at h
            · rename_i b As h1 h2; cases h; exact bi h1 h2
            · cases h
        · split at h
          · rename_i b As h1 h2; cases h; exact bi h1 h2
          · cases h
theorem sd_meth (G : Gd X ca W Φ k c) {a : Expr} {es : List Expr} {m : Str} {me : Me} {A : E} {Ts : List E} {p1 p2 : Pos} (hm : meOf m es.length = some me) (ha : PE X a (TEx X ca W Φ A)) (hs : PA X es (TAx X ca W Φ Ts)) (hb : baseE a = true) (hp : es.all plainE = true) (hl : es.length < 30) (hline : (p1.endLine == p2.line) = true) :
    PE X (.Call (.Attribute a m p1) es [] p2) (TEx X ca W Φ (.meth me A Ts)) := by
  unfold meOf at hm
  (repeat' split at hm) <;> first | (cases hm; done) | skip
  all_goals (rename_i hx; cases hm)
  · subst hx
    exact xe_meth rfl F.plainAttrs_list F.slot_list_append F.type_list_append met_append ha hs hb hp hl hline
  · subst hx
    exact xe_meth rfl F.plainAttrs_list F.slot_list_extend F.type_list_extend met_extend ha hs hb hp hl hline
  · obtain ⟨rfl, _⟩ := hx
    exact xe_meth rfl F.plainAttrs_list F.slot_list_pop F.type_list_pop met_pop ha hs hb hp hl hline
  · obtain ⟨rfl, _⟩ := hx
    exact xe_meth rfl F.plainAttrs_dict F.slot_dict_get F.type_dict_get (met_get G.un) ha hs hb hp hl hline
  · obtain ⟨rfl, _⟩ := hx
    exact xe_meth rfl F.plainAttrs_dict F.slot_dict_get F.type_dict_get (met_get2 G.un) ha hs hb hp hl hline

/-! ### blocks, lambdas -/
theorem relS_eq (G : Gd X ca W Φ k c) (scope : Scope) : relS scope X.env.scope = relS scope (scN c.sc) := by
  unfold relS scN
  rw [G.kind, G.sc]
theorem blk_ok (G : Gd X ca W Φ k c) {scope : Scope} {own : List (Str × Nat)} (h : blkC c.N (scN c.sc) scope own = true) : BlkOk X.N X.env.scope scope own := by
  have b := blkOk_by h
  refine ⟨b.kind, b.uniq, fun p hp => by rw [G.N]; exact b.ix p hp, fun y hy e => ?_, fun y hy e => by rw [G.N]; exact b.own y hy e⟩
  rw [G.sc]; exact b.free y hy e
theorem cells_lookup {names : List (Str × NameKind)} {x : Str} (hu : ∀ y ∈ names, names.lookup y.1 = some y.2) (h : (cellsOf names).contains x = true) : names.lookup x = some .cell := by
  have hm : x ∈ cellsOf names := by simpa using h
  unfold cellsOf at hm
  obtain ⟨p, hp, e⟩ := List.mem_filterMap.mp hm
  split at e
  · rename_i e2
    cases e
    rw [hu p hp, e2]
  · cases e
theorem Gd.blk (G : Gd X ca W Φ k c) {scope : Scope} {own : List (Str × Nat)} (h : blkC c.N (scN c.sc) scope own = true) (s : Shared) (H : Hp) (C : Addr) (cl : List (Str × Addr)) (fp : List Addr) :
    Gd (X.blk s H scope (compEnvC scope cl C X.env) fp) ca W0 Φ k (c.blk scope) where
  N := G.N
  nd := G.nd
  sc := by
    show (relS scope X.env.scope).names = _
    rw [relS_eq G]; rfl
  kind := (blkOk_by h).kind
  calm := G.calm
  gu := G.gu
  room := G.room
  room2 := fun z => absurd rfl z
  tk := takes_off
  cellf := fun x hx => by
    show (scope.names.lookup x == some NameKind.cell) = true
    rw [cells_lookup (blkOk_by h).uniq hx]; rfl
  glob := ⟨G.glob.fn, G.glob.con, G.glob.blt, G.glob.gen, G.glob.cls, G.glob.kit, G.glob.kitN, G.glob.exs, G.glob.rai⟩
  hears := fun x z => nomatch z
theorem Gd.lam (G : Gd X ca W Φ k c) {scope : Scope} (h : LamX.lamSB (scN c.sc) scope = true) (A : Around) (outer : List Env) (s : Shared) (H : Hp) (E : XK) (f c' : Addr) (hg : A.guards = some []) (hr : Room (k + 1) (A.deeper (LamX.lamEnv X scope s.heap.objs.size f c'))) :
    Gd (LamX.lamCx X A outer s H E scope f c') ca E Φ k (c.lam scope) where
  N := G.N
  nd := G.nd
  sc := rfl
  kind := (LamX.lamS_by h).kind
  calm := rfl
  gu := hg
  room := hr
  room2 := fun z => absurd rfl z
  tk := takes_of (E₁ := fun e' s'' => L2.CX X.prog X.w outer H s E e' s'') rfl rfl rfl rfl
  cellf := fun x hx => by cases hx
  glob := ⟨G.glob.fn, G.glob.con, G.glob.blt, G.glob.gen, G.glob.cls, G.glob.kit, G.glob.kitN, G.glob.exs, G.glob.rai⟩
  hears := fun x z => nomatch z
theorem lam_ok (G : Gd X ca W Φ k c) {scope : Scope} (h : LamX.lamSB (scN c.sc) scope = true) : LamX.LamS X.env.scope scope := by
  have l := LamX.lamS_by h
  exact ⟨l.kind, l.co, l.gen, l.own, fun y hy e => by rw [G.sc]; exact l.free y hy e⟩
theorem lam_bind (q : Str) (body : Expr) (scope : Scope) (cl : List (Str × Addr)) (pm cv ctv : Value) : bindArgs (PySem.W.kla_fn "<lambda>" q ⟨[], [], none, [], [], none, []⟩ body scope cl pm cv ctv) ⟨[], []⟩ = pure [] := by rfl
theorem empty_of {a : Arguments} (h : emptyArgs a = true) : a = ⟨[], [], none, [], [], none, []⟩ := by
  unfold emptyArgs at h
  split at h
  · rfl
  · cases h
end

/-! ### THE EXPRESSIONS -/
def Sort_ (ca : Ca) : Prop := ∀ (X : Cx) (W : XK), X.A.units + 65 < cLine → X.A.guards = some [] → CallR X (.builtin "sorted") (rBi X ca W .sorted)
theorem sort_ok {ca : Ca} : Sort_ ca := fun X W hu _ => cal_sorted hu
theorem set_marks {op : CmpOp} {b : Expr} (h : isSet b = false) : behindInMarks op b = false := by
  cases b <;> first | rfl | (simp [isSet] at h)
theorem slice_plain {b : Expr} (h : isSlice b = false) : PlainIx b := fun o i => by
  cases b <;> first | rfl | (simp [isSlice] at h)
theorem cop_ok {X : Cx} {ca : Ca} {W : XK} (hu : X.A.units + 65 < cLine) {op : CmpOp} {o : Cop} (h : copOf op = some o) : OpR X (compareOp op) (rCmp X ca W o) := by
  cases op <;> cases h
  · exact opr_eq hu
  · exact opr_ne hu
  · exact opr_lt
  · exact opr_le
  · exact opr_gt
  · exact opr_ge
  · exact opr_isN
  · exact opr_notN
  · exact opr_mem hu
  · exact opr_nmem hu
theorem bop_ok {X : Cx} {ca : Ca} {W : XK} {op : Operator} {o : Bop} (h : bopOf op = some o) : OpR X (binaryOp op) (rBin X ca W o) := by
  cases op <;> cases h
  · exact opr_bin .add
  · exact opr_bin .sub
  · exact opr_bin .mul
  · exact opr_bin .mod
  · exact opr_bin .pow
  · exact opr_bin .fdiv
theorem cE_ok {ca : Ca} {Φ : Nat → List D → M D} {k : Nat} (hsort : Sort_ ca) : ∀ (n : Nat) (X : Cx) (W : XK) (c : Ct), Gd X ca W Φ k c → ∀ (e : Expr) (T : E), cE n c e = some T → Sd X ca W Φ e T
  | 0, _, _, _, _, _, _, h => by cases h
  | n + 1, X, W, c, G, e, T, h => by
    have ih : ∀ e T, cE n c e = some T → Sd X ca W Φ e T := fun e T h => cE_ok hsort n X W c G e T h
    unfold cE at h
    split at h
    · exact sd_const h
    · exact sd_name G h
    · split at h
      · rename_i o A B h1 h2 h3
        cases h
        exact sd_of (xe_bin (bop_ok h1) (ih _ A h2).1 (ih _ B h3).1) fun _ => rfl
      · cases h
    · obtain ⟨A, e, rfl⟩ := Option.map_eq_some_iff.mp h
      exact sd_of (xe_neg (ih _ A e).1) fun _ => rfl
    · obtain ⟨A, e, rfl⟩ := Option.map_eq_some_iff.mp h
      exact ⟨xe_not (ih _ A e).1, xt_not (ih _ A e).2⟩
    · obtain ⟨Ts, h1, h2⟩ := Option.bind_eq_some_iff.mp h
      obtain ⟨q1, q2⟩ := sd_conj ih h1 h2
      exact ⟨q1, q2.pt⟩
    · obtain ⟨Ts, h1, h2⟩ := Option.bind_eq_some_iff.mp h
      obtain ⟨q1, q2⟩ := sd_disj ih h1 h2
      exact ⟨q1, q2.pt⟩
    · split at h
      · cases h
      · rename_i hs
        split at h
        · rename_i o A B h1 h2 h3
          cases h
          have hm := fun op => set_marks (op := op) (by simpa using hs)
          exact ⟨xe_cmp (cop_ok G.un h1) (ih _ A h2).1 (ih _ B h3).1 (hm _), xt_cmp (cop_ok G.un h1) (ih _ A h2).1 (ih _ B h3).1 (hm _)⟩
        · cases h
    · split at h
      · cases h
      · rename_i hs
        split at h
        · rename_i o o' A B C h1 h2 h3 h4 h5
          cases h
          have hm := fun op => set_marks (op := op) (by simpa using hs)
          exact ⟨xe_chain (cop_ok G.un h1) (cop_ok G.un h2) (ih _ A h3).1 (ih _ B h4).1 (ih _ C h5).1 (hm _), xt_chain (cop_ok G.un h1) (cop_ok G.un h2) (ih _ A h3).1 (ih _ B h4).1 (ih _ C h5).1 (hm _)⟩
        · cases h
    · split at h
      · rename_i T' A B h1 h2 h3
        cases h
        exact ⟨xe_ite (ih _ T' h1).2 (ih _ A h2).1 (ih _ B h3).1, xt_ite (ih _ T' h1).2 (ih _ A h2).2 (ih _ B h3).2⟩
      · cases h
    · split at h
      · rename_i hp
        obtain ⟨Ts, e, rfl⟩ := Option.map_eq_some_iff.mp h
        exact sd_of (xe_tup (seqE_pa ih e hp)) fun _ => rfl
      · cases h
    · split at h
      · rename_i hp
        obtain ⟨Ts, e, rfl⟩ := Option.map_eq_some_iff.mp h
        exact sd_of (xe_lst (seqE_pa ih e hp)) fun _ => rfl
      · cases h
    · rename_i ks vs p
      split at h
      · rename_i hc
        obtain ⟨h1, h2, h3⟩ := hc
        obtain ⟨Ts, e, rfl⟩ := Option.map_eq_some_iff.mp h
        refine sd_of ?_ fun _ => rfl
        cases ks with
        | nil =>
          cases vs with
          | nil => cases e; exact xe_dict0
          | cons v vs => simp at h2
        | cons kk ks => exact xe_dict G.un (alt_pp ih e h1 h2) h1 h2 (by simp) h3
      · cases h
    · rename_i a lo hi p3 p4
      split at h
      · rename_i A L U h1 h2 h3
        cases h
        refine sd_of (xe_slice (ih _ A h1).1 ?_ ?_) fun _ => rfl
        · cases lo with
          | none => cases h2; exact xo_none
          | some l =>
            obtain ⟨L', e, rfl⟩ := Option.map_eq_some_iff.mp h2
            exact xo_some (ih _ L' e).1
        · cases hi with
          | none => cases h3; exact xo_none
          | some l =>
            obtain ⟨L', e, rfl⟩ := Option.map_eq_some_iff.mp h3
            exact xo_some (ih _ L' e).1
      · cases h
    · split at h
      · cases h
      · rename_i hs
        split at h
        · rename_i A I h1 h2
          cases h
          exact sd_of (xe_idx G.un (ih _ A h1).1 (ih _ I h2).1 (slice_plain (by simpa using hs))) fun _ => rfl
        · cases h
    · split at h
      · rename_i hc
        obtain ⟨rfl, hb⟩ := hc
        obtain ⟨A, e, rfl⟩ := Option.map_eq_some_iff.mp h
        exact sd_of (xe_val G.glob.cls (ih _ A e).1 (base_of hb)) fun _ => rfl
      · cases h
    · rename_i x p1 ps b scope lp p2
      split at h
      · rename_i hc
        obtain ⟨h1, h2, h3, h4, h5⟩ := hc
        obtain ⟨A, e, rfl⟩ := Option.map_eq_some_iff.mp h
        have hps := empty_of h4
        subst hps
        refine sd_of ?_ fun _ => rfl
        obtain ⟨g, cc, P, CT, pg, pp, kk, sg, dV, kV, doc, pm, cdv, ct, oc, an, od, osl, a1, a2, a3, a4, a5, a6, ⟨l1, l2, l3, l4, l5⟩, a7, a8, a9, a10, a11, a12⟩ := (G.hears x h1).all
        exact xe_heard (G.gl h3) a1 a2 a3 a4 a5 a6 l1 l2 l3 l4 l5 a7 a8 a9 a10 a11 a12 G.gu (G.room2 (by rw [h1]; simp)) (lam_ok G h5) rfl (fun q cl pm cv ctv => lam_bind q b scope cl pm cv ctv)
          (fun A' outer s H E f c' hg hr => (cE_ok hsort n _ E (c.lam scope) (G.lam h5 A' outer s H E f c' hg hr) b A e).1) (dbg_ne h2)
      · cases h
    · exact sd_of (sd_call G (hsort X W G.un G.gu) ih h) fun _ => rfl
    · split at h
      · rename_i hc
        obtain ⟨h1, h2, h3, h4⟩ := hc
        split at h
        · rename_i me A As e1 e2 e3
          cases h
          exact sd_of (sd_meth G e1 (ih _ A e2).1 (seqE_pa ih e3 h2) h1 h2 h3 h4) fun _ => rfl
        · cases h
      · cases h
    · rename_i elt tg it ifs scope p
      split at h
      · rename_i hc
        obtain ⟨hb, hl⟩ := hc
        split at h
        · rename_i g i ts e' e1 e2 e3 e4
          split at h
          · rename_i hg
            cases h
            obtain ⟨q1, q2⟩ := sd_it G ih e2
            refine sd_of (xe_comp G.calm (by rw [G.N]; exact G.nd) q1 (blk_ok G hb) rfl (fun j hj => by simpa using List.all_eq_true.mp hg j hj) (fun s H C cl fp => (sd_tg (G.blk hb s H C cl fp) 9 tg g e1).1) (fun s H C cl fp => ?_) (fun s H C cl fp => (cE_ok hsort n _ W0 (c.blk scope) (G.blk hb s H C cl fp) elt e' e4).1) q2) fun _ => rfl
            have G2 := G.blk hb s H C cl fp
            match ifs, hl, e3 with
            | [], _, e3 => cases e3; exact xts_nil
            | [t], _, e3 =>
              unfold seqE at e3
              split at e3
              · rename_i y ys f1 f2
                cases f2
                cases e3
                exact xts_one (cE_ok hsort n _ W0 (c.blk scope) G2 t y f1).2
              · cases e3
            | _ :: _ :: _, hl, _ => simp at hl
          · cases h
        · cases h
      · cases h
    · cases h
end Mi

set_option Elab.async false
set_option linter.all false
set_option maxRecDepth 100000
set_option maxHeartbeats 4000000
/-! Mi, part S: statements, defs. -/
namespace Mi
open PySem PySem.Spec PyProof.Rows L2

/-! ### several plain locals at once, stored from the right -/
def stAll : List (Str × Nat) → List V → L2.St → L2.St
  | p :: L, v :: vs, σ => stAll L vs (σ.set p.2 (some v))
  | _, _, σ => σ
theorem stAll_snoc (p : Str × Nat) (v : V) : ∀ {L : List (Str × Nat)} {vs : List V} {σ : L2.St}, L.length = vs.length → stAll (L ++ [p]) (vs ++ [v]) σ = (stAll L vs σ).set p.2 (some v)
  | [], [], _, _ => rfl
  | [], _ :: _, _, h => by simp at h
  | _ :: _, [], _, h => by simp at h
  | q :: L, u :: vs, σ, h => stAll_snoc p v (L := L) (vs := vs) (by simpa using h)
theorem stAll_comm {i : Nat} {x : Option V} : ∀ {L : List (Str × Nat)} {vs : List V} {σ : L2.St}, i ∉ L.map (·.2) → (stAll L vs σ).set i x = stAll L vs (σ.set i x)
  | [], _, _, _ => rfl
  | _ :: _, [], _, _ => rfl
  | q :: L, u :: vs, σ, h => by
    simp only [List.map_cons, List.mem_cons, not_or] at h
    unfold stAll
    rw [stAll_comm h.2, List.set_comm _ _ (Ne.symm h.1)]
theorem stAll_rev : ∀ {L : List (Str × Nat)} {vs : List V} {σ : L2.St}, L.length = vs.length → (L.map (·.2)).Nodup → stAll L.reverse vs.reverse σ = stAll L vs σ
  | [], [], _, _, _ => rfl
  | [], _ :: _, _, h, _ => by simp at h
  | _ :: _, [], _, h, _ => by simp at h
  | q :: L, u :: vs, σ, h, nd => by
    rw [List.map_cons, List.nodup_cons] at nd
    have hl : L.length = vs.length := by simpa using h
    rw [List.reverse_cons, List.reverse_cons, stAll_snoc q u (by simpa using hl), stAll_rev hl nd.2, stAll_comm nd.1]
    rfl
section
variable {X : Cx} {ca : Ca} {W : XK} {Φ : Nat → List D → M D} {k : Nat} {c : Ct}
theorem ord_all {M : Model} {pins : List (Addr × Obj)} {A : Around} {E : Value → Shared → Prop} {H : Hp} (hN : X.N.Nodup) : ∀ {L : List (Str × Nat)} {vs : List V} {us : List Value} {σ : L2.St} {s : Shared} {Q : Unit → Shared → Prop},
    (∀ p ∈ L, X.N[p.2]? = some p.1 ∧ X.env.scope.names.lookup p.1 = some .local) → L.length = vs.length → Vals vs us → Inv X pins σ H s → (∀ s', Inv X pins (stAll L vs σ) H s' → Q () s') →
      wpAny M A (assignInOrder (L.map fun p => fun v => bindName X.env p.1 v) us) Q E s
  | [], [], _, σ, s, Q, _, _, .nil, I, hq => assignInOrder_nil (hq s I)
  | [], _ :: _, _, _, _, _, _, h, _, _, _ => by simp at h
  | _ :: _, [], _, _, _, _, _, h, _, _, _ => by simp at h
  | p :: L, v :: vs, _, σ, s, Q, hL, h, .cons r rr, I, hq => by
    obtain ⟨h1, h2⟩ := hL p List.mem_cons_self
    rw [List.map_cons]
    refine assignInOrder_cons (wpAny_bindName (store_ok I hN h1 (.inl h2) r (fun s2 I2 => ?_) (.inr h2)))
    exact ord_all hN (fun q hq => hL q (List.mem_cons_of_mem _ hq)) (by simpa using h) rr I2 hq
theorem stores_some {env : Env} {v : Value} {names : List Str} {sts : List (Value → Sem Unit)} : assignStores env v (some names) sts = (do rule "assign.swapped-stores"; let items ← unpackItems v names.length none; assignInOrder (names.reverse.map fun n => bindName env n) items.reverse; pure Flow.next) := rfl
theorem ps_parN {L : List (Str × Nat)} {ts vs : List Expr} {t : TA} {kt k2 : Nat} {pt pt2 pos : Pos} (hc : X.calm = true) (hN : X.N.Nodup) (hL : ∀ p ∈ L, X.N[p.2]? = some p.1 ∧ X.env.scope.names.lookup p.1 = some .local) (nd : (L.map (·.2)).Nodup) (hlim : L.length ≤ 1000)
    (ha : PA X vs t) (hw : swappedStores [.Tuple ts kt pt] (.Tuple vs k2 pt2) X.env = pure (some (L.map (·.1)))) :
    PS X (.Assign [.Tuple ts kt pt] (.Tuple vs k2 pt2) pos) (fun D σ H => t σ H fun ws H1 => ws.length = L.length ∧ D.nx (stAll L ws σ) H1) := by
  refine ⟨fun pins s σ H D I h => ?_⟩
  rw [exec_Assign_arm]
  refine wpAny_bind (wpAny_standAt ?_)
  rw [show swapsWithSole [Expr.Tuple ts kt pt] (.Tuple vs k2 pt2) pos.line X.env = pure false from rfl]
  refine wpAny_bind (wpAny_pure ?_)
  rw [if_neg (by decide)]
  refine wpAny_bind (Tuple_ (thn (ha.run _ pins s σ H _ I h) fun us s1 ⟨ws, H1, I1, r1, hl, q1⟩ => ?_))
  have hul : us.length = L.length := by rw [← r1.length]; exact hl
  refine wpAny_newObj_type ?_ (by show us.toArray.size ≤ sizeLine; rw [List.size_toArray, hul, sizeLine_eq]; omega)
  have I2 : Inv X pins σ H1 { s1 with heap := s1.heap.push { cls := .type "tuple", data := .seq us.toArray } } := I1.kept (t' := s1.toks) fun b o e => Heap.get?_push_of_some _ e
  rw [hw]
  refine wpAny_bind (wpAny_pure ?_)
  rw [stores_some]
  rw [show (L.map (·.1)).length = us.toArray.size by rw [List.length_map, List.size_toArray, hul]]
  refine wpAny_bind (wpAny_rule (wpAny_bind (unpackItems_tuple (items := us.toArray) (I.ok.hd hc) (IsTup.new s1.heap _) fun h' hx' => ?_)))
  have I3 := I2.kept (h' := h') (t' := s1.toks) fun b o e => hx' b o (Nat.ne_of_lt (Heap.lt_size e)) e
  have e : ((L.map (·.1)).reverse.map fun n => bindName X.env n) = L.reverse.map fun p => fun v => bindName X.env p.1 v := by
    rw [← List.map_reverse, List.map_map]; rfl
  rw [e]
  have rr : Vals ws.reverse us.toArray.toList.reverse := by
    have go : ∀ {xs : List V} {ys : List Value} {as : List V} {bs : List Value}, Vals xs ys → Vals as bs → Vals (xs.reverse ++ as) (ys.reverse ++ bs) := by
      intro xs ys as bs h
      induction h generalizing as bs with
      | nil => intro h; simpa using h
      | cons r t ih => intro h; simpa using ih (.cons r h)
    simpa using go r1 .nil
  refine wpAny_bind (ord_all hN (L := L.reverse) (vs := ws.reverse) (fun p hp => hL p (List.mem_reverse.mp hp)) (by simp [hl]) rr I3 fun s' J => wpAny_pure ?_)
  rw [stAll_rev hl.symm nd] at J
  exact ⟨_, H1, J, q1⟩
theorem par_put : ∀ {L : List (Str × Nat)} {ds : List D} {vs : List V} {env env' : Sl} {σ : L2.St} {μ : List Addr} {H : Hp}, Tg.puts (L.map fun p => .name p.2) ds env = some env' → RVs X.K μ H ds vs → RE X.K μ H env σ → RE X.K μ H env' (stAll L vs σ) ∧ ds.length = L.length
  | [], [], _, env, env', σ, μ, H, h, .nil, re => by cases h; exact ⟨re, rfl⟩
  | [], _ :: _, _, _, _, _, _, _, h, _, _ => by cases h
  | _ :: _, [], _, _, _, _, _, _, h, _, _ => by cases h
  | p :: L, d :: ds, _, env, env', σ, μ, H, h, .cons r rr, re => by
    rw [List.map_cons] at h
    simp only [Tg.puts] at h
    obtain ⟨env1, e1, e2⟩ := Option.bind_eq_some_iff.mp h
    simp only [Tg.put] at e1
    split at e1
    · cases e1
      obtain ⟨q1, q2⟩ := par_put e2 rr (re.set r)
      exact ⟨q1, by simp [q2]⟩
    · cases e1
def setFl (g : Tg) (env : Sl) (d : Mi.D) : M Fl := match g.put d env with
  | some env' => M.pure (Fl.nx env')
  | none => M.no
theorem xs_par {L : List (Str × Nat)} {ts vs : List Expr} {As : List E} {kt k2 : Nat} {pt pt2 pos : Pos} (hc : X.calm = true) (hN : X.N.Nodup) (hL : ∀ p ∈ L, X.N[p.2]? = some p.1 ∧ X.env.scope.names.lookup p.1 = some .local) (nd : (L.map (·.2)).Nodup) (hlim : L.length ≤ 1000)
    (ha : PA X vs (TAx X ca W Φ As)) (hw : swappedStores [.Tuple ts kt pt] (.Tuple vs k2 pt2) X.env = pure (some (L.map (·.1)))) :
    PS X (.Assign [.Tuple ts kt pt] (.Tuple vs k2 pt2) pos) (TSx X ca W (denS Φ (.set (.tup (L.map fun p => .name p.2)) (.tup As)))) :=
  (ps_parN hc hN hL nd hlim ha hw).imp fun D σ H ⟨μ, env, st, rs, re, h⟩ => by
    refine ⟨μ, env, st, rs, re, ?_⟩
    obtain ⟨G, hG⟩ : ∃ G : Mi.D → M Fl, setFl (.tup (L.map fun p => .name p.2)) env = G := ⟨_, rfl⟩
    have h : Po X.K X.w ca W (RF X.K) μ H ((M.bind (dens Φ As env) newT st).bind G) (toQ D) := by rw [← hG]; exact h
    have e : (M.bind (dens Φ As env) newT st).bind G = (dens Φ As env st).bind fun ds => M.bind (newT ds) G := congrFun (M.bind_assoc (dens Φ As env) newT G) st
    rw [e] at h
    refine Po.bi h fun ds st1 μ1 H1 ws _ x1 rs1 r1 h1 => ?_
    unfold M.bind newT at h1
    split at h1
    · have h1 : Po X.K X.w ca W (RF X.K) μ1 H1 (G (.tup ds) st1) (toQ D) := h1
      rw [← hG] at h1
      unfold setFl at h1
      cases e : Tg.puts (L.map fun p => .name p.2) ds env with
      | none => simp only [Tg.put, e] at h1; exact False.elim h1
      | some env' =>
        simp only [Tg.put, e] at h1
        obtain ⟨q1, q2⟩ := par_put e r1 (re.mono x1)
        exact ⟨by rw [← r1.length]; exact q2, fl_nx (D := D) h1 rs1 q1⟩
    · exact False.elim h1

/-! ### statements -/
def cNm (c : Ct) (line : Nat) : Expr → Option (Str × Nat)
  | .Name x _ => if c.look x = some .local then (ixOf c.N x).map fun i => (x, i) else none
  | _ => none
def isNm : Expr → Bool
  | .Name .. => true
  | _ => false
def cAsg (n : Nat) (c : Ct) (tg e : Expr) : Option S := match tg with
  | .Subscript o i _ => if isSlice i then none else match cE n c o, cE n c i, cE n c e with
    | some O, some I, some A => some (.put O I A)
    | _, _, _ => none
  | .Name x p => match cT 9 c (.Name x p), cE n c e with
    | some g, some A => some (.set g A)
    | _, _ => none
  | .Tuple ts kk p => match e with
    | .Tuple vs _ _ => (match swapP c.look ts vs with
      | some none => (match cT 9 c (.Tuple ts kk p), cE n c e with
        | some g, some A => some (.set g A)
        | _, _ => none)
      | some (some names) => (match seqE (cNm c (lineOf ts)) ts, seqE (cE n c) vs with
        | some L, some As => if L.map (·.1) = names ∧ (L.map (·.2)).Nodup ∧ L.length ≤ 1000 ∧ vs.all plainE then some (.set (.tup (L.map fun p => .name p.2)) (.tup As)) else none
        | _, _ => none)
      | none => none)
    | _ => (match cT 9 c (.Tuple ts kk p), cE n c e with
      | some g, some A => some (.set g A)
      | _, _ => none)
  | _ => none
def cS : Nat → Ct → Stmt → Option S
  | 0, _, _ => none
  | n + 1, c, s => match s with
    | .Return none _ => some .retN
    | .Return (some e) _ => (cE n c e).map .ret
    | .Expr (.Constant (.str _) _ _) _ => some .pass
    | .Expr e _ => if isComp e then none else (cE n c e).map .expr
    | .Pass _ => some .pass
    | .Break _ => some .brk
    | .Continue _ => some .cont
    | .If t a b _ => match cE n c t, seqE (cS n c) a, seqE (cS n c) b with
      | some T, some A, some B => some (.ifs T A B)
      | _, _, _ => none
    | .While t b [] _ => match cE n c t, seqE (cS n c) b with
      | some T, some B => some (.whiles T B)
      | _, _ => none
    | .For tg it b [] _ => match cT 9 c tg, cI (cE n c) c tg it, seqE (cS n c) b with
      | some g, some i, some B => some (.fors g i B)
      | _, _, _ => none
    | .Raise (some (.Call (.Name x _) [e] [] _)) none _ => if x = ("__debug__" : Str) ∨ !isGlob (c.look x) ∨ !plainE e then none else match c.exs.lookup x, cE n c e with
      | some i, some A => some (.raise i A)
      | _, _ => none
    | .Assign [tg] e _ => cAsg n c tg e
    | _ => none

theorem swaps_off {tg e : Expr} {l : Nat} {env : Env} (h : isComp e = false ∨ ∀ x p, tg ≠ .Name x p) : swapsWithSole [tg] e l env = pure false := by
  rcases h with h | h
  · cases e <;> first | rfl | (simp [isComp] at h)
  · cases tg <;> first | exact absurd rfl (h _ _) | (cases e <;> rfl)
theorem swaps_none {e : Expr} {l : Nat} {env : Env} (h : isComp e = false) : swapsWith e none l env = pure false := by
  cases e <;> first | rfl | (simp [isComp] at h)
theorem nm_ok (G : Gd X ca W Φ k c) {l : Nat} : ∀ {ts : List Expr} {L : List (Str × Nat)}, seqE (cNm c l) ts = some L → ∀ p ∈ L, X.N[p.2]? = some p.1 ∧ X.env.scope.names.lookup p.1 = some .local
  | [], L, h => by cases h; exact fun p hp => nomatch hp
  | t :: ts, L, h => by
    unfold seqE at h
    split at h
    · rename_i y ys h1 h2
      cases h
      intro p hp
      rcases List.mem_cons.mp hp with e | hp
      · subst e
        unfold cNm at h1
        split at h1
        · split at h1
          · rename_i hl
            obtain ⟨i, e, rfl⟩ := Option.map_eq_some_iff.mp h1
            refine ⟨G.at_ e, ?_⟩
            rw [G.sc]; exact hl
          · cases h1
        · cases h1
      · exact nm_ok G h2 p hp
    · cases h
theorem lc_of {e : Expr} (h : isComp e = true) {n : Nat} {T : E} (ht : cE n c e = some T) : ∃ elt tg it ifs scope p, e = .ListComp elt [⟨tg, it, ifs, 0⟩] scope p := by
  cases n with
  | zero => cases ht
  | succ n =>
    unfold cE at ht
    split at ht <;> first | (simp [isComp] at h; done) | skip
    · exact ⟨_, _, _, _, _, _, rfl⟩
    · cases ht
/-- name = [..] on one line -/
theorem sd_setComp (G : Gd X ca W Φ k c) (hsort : Sort_ ca) {n : Nat} {y : Str} {py spos : Pos} {i : Nat} {elt tg it : Expr} {ifs : List Expr} {scope : Scope} {p : Pos} {T : E} (hy : ixOf c.N y = some i) (hl : c.look y = some .local) (hline : (py.line == p.line) = true)
    (hany : (scope.names.any fun (n, k) => n == y && (k == .local || k == .cell)) = false) (h : cE n c (.ListComp elt [⟨tg, it, ifs, 0⟩] scope p) = some T) : PS X (.Assign [.Name y py] (.ListComp elt [⟨tg, it, ifs, 0⟩] scope p) spos) (TSx X ca W (denS Φ (.set (.name i) T))) := by
  have hyl : X.env.scope.names.lookup y = some .local := by rw [G.sc]; exact hl
  cases n with
  | zero => cases h
  | succ n =>
    unfold cE at h
    simp only at h
    split at h
    · rename_i hc
      obtain ⟨hb, hlen⟩ := hc
      split at h
      · rename_i g ii ts e' e1 e2 e3 e4
        split at h
        · rename_i hg
          cases h
          obtain ⟨q1, q2⟩ := sd_it G (fun e T h => cE_ok hsort n X W c G e T h) e2
          refine xs_setComp G.calm (by rw [G.N]; exact G.nd) (G.at_ hy) hyl (sw_true G.kind hyl hline hany) q1 (blk_ok G hb) rfl (fun j hj => by simpa using List.all_eq_true.mp hg j hj) (fun s H C cl fp => (sd_tg (G.blk hb s H C cl fp) 9 tg g e1).1) (fun s H C cl fp => ?_) (fun s H C cl fp => (cE_ok hsort n _ W0 (c.blk scope) (G.blk hb s H C cl fp) elt e' e4).1) q2
          have G2 := G.blk hb s H C cl fp
          match ifs, hlen, e3 with
          | [], _, e3 => cases e3; exact xts_nil
          | [t], _, e3 =>
            unfold seqE at e3
            split at e3
            · rename_i y ys f1 f2
              cases f2
              cases e3
              exact xts_one (cE_ok hsort n _ W0 (c.blk scope) G2 t y f1).2
            · cases e3
          | _ :: _ :: _, hlen, _ => simp at hlen
        · cases h
      · cases h
    · cases h
theorem sw_false {elt tg it : Expr} {ifs : List Expr} {scope : Scope} {p py : Pos} {y : Str} {l : Nat} {env : Env} (hk : env.scope.kind = .function) (h : ¬ (env.kindOf y = some .local ∧ (py.line == p.line) = true ∧ (scope.names.any fun (n, k) => n == y && (k == .local || k == .cell)) = false)) :
    swapsWithSole [.Name y py] (.ListComp elt [⟨tg, it, ifs, 0⟩] scope p) l env = pure false := by
  have hb : env.blockKind = .function := by unfold Env.blockKind; rw [hk]; rfl
  show swapsWith (.ListComp elt [⟨tg, it, ifs, 0⟩] scope p) (some (.Name y py)) l env = pure false
  unfold swapsWith
  simp only [hb, Expr.pos]
  by_cases h1 : env.kindOf y = some .local
  · by_cases h2 : (py.line == p.line) = true
    · have h3 : (scope.names.any fun (n, k) => n == y && (k == .local || k == .cell)) = true := by
        cases e : (scope.names.any fun (n, k) => n == y && (k == .local || k == .cell)) with
        | true => rfl
        | false => exact absurd ⟨h1, h2, e⟩ h
      simp only [h3]
      simp
    · have h2' : (py.line == p.line) = false := by simpa using h2
      simp only [h2']
      simp
  · have h1' : (env.kindOf y == some NameKind.local) = false := beq_eq_false_iff_ne.mpr h1
    simp only [h1']
    simp
theorem sd_asg (G : Gd X ca W Φ k c) (hsort : Sort_ ca) {n : Nat} {tg e : Expr} {T : S} {pos : Pos} (h : cAsg n c tg e = some T) : PS X (.Assign [tg] e pos) (TSx X ca W (denS Φ T)) := by
  have ih : ∀ e T, cE n c e = some T → Sd X ca W Φ e T := fun e T h => cE_ok hsort n X W c G e T h
  have nd : X.N.Nodup := by rw [G.N]; exact G.nd
  have plain : ∀ {g : Tg} {A : E}, cT 9 c tg = some g → cE n c e = some A → (isComp e = false ∨ ∀ x p, tg ≠ .Name x p) → swappedStores [tg] e X.env = pure none → PS X (.Assign [tg] e pos) (TSx X ca W (denS Φ (.set g A))) := fun {g A} h1 h2 h3 h4 => by
    obtain ⟨q1, q2⟩ := sd_tg G 9 tg g h1
    exact xs_set (ih e A h2).1 q1 (swaps_off h3) h4 q2
  unfold cAsg at h
  split at h
  · rename_i o i p
    split at h
    · cases h
    · rename_i hs
      have hs' : isSlice i = false := by simpa using hs
      split at h
      · rename_i O I A h1 h2 h3
        cases h
        refine xs_put G.un (ih o O h1).1 (ih i I h2).1 (ih e A h3).1 (fun l u q z => by rw [z] at hs'; cases hs') (fun v => ?_) (swaps_off (.inr fun x q z => by cases z)) (swap_no ⟨(fun _ _ _ z => by cases z), (fun _ _ z => by cases z)⟩)
        cases i <;> first | rfl | (simp [isSlice] at hs')
      · cases h
  · rename_i x p
    split at h
    · rename_i g A h1 h2
      cases h
      have h1' := h1
      by_cases hc : isComp e = true
      · obtain ⟨elt, tg2, it, ifs, scope, p2, rfl⟩ := lc_of hc h2
        by_cases hsw : X.env.kindOf x = some .local ∧ (p.line == p2.line) = true ∧ (scope.names.any fun (n, k) => n == x && (k == .local || k == .cell)) = false
        · obtain ⟨s1, s2, s3⟩ := hsw
          unfold cT at h1
          simp only at h1
          split at h1
          · obtain ⟨i, e, rfl⟩ := Option.map_eq_some_iff.mp h1
            exact sd_setComp G hsort e (by rw [← G.look]; exact s1) s2 s3 h2
          · cases h1
        · obtain ⟨q1, q2⟩ := sd_tg G 9 _ g h1'
          exact xs_set (ih _ A h2).1 q1 (sw_false G.kind hsw) (swap_no ⟨(fun _ _ _ z => by cases z), (fun _ _ z => by cases z)⟩) q2
      · exact plain h1 h2 (.inl (by simpa using hc)) (swap_no ⟨(fun _ _ _ z => by cases z), (fun _ _ z => by cases z)⟩)
    · cases h
  · rename_i ts kk p
    split at h
    · rename_i vs k2 p2
      have lk : c.look = X.env.kindOf := funext fun x => (G.look x).symm
      split at h
      · rename_i hsw
        split at h
        · rename_i g A h1 h2
          cases h
          exact plain h1 h2 (.inr fun x q z => by cases z) (swap_eq G.kind (by rw [← lk]; exact hsw))
        · cases h
      · rename_i names hsw
        split at h
        · rename_i L As h1 h2
          split at h
          · rename_i hc
            obtain ⟨c1, c2, c3, c4⟩ := hc
            cases h
            refine xs_par G.calm nd (nm_ok G h1) c2 c3 (seqE_pa ih h2 c4) ?_
            rw [c1]
            exact swap_eq G.kind (by rw [← lk]; exact hsw)
          · cases h
        · cases h
      · cases h
    · rename_i hnt
      split at h
      · rename_i g A h1 h2
        cases h
        exact plain h1 h2 (.inr fun x q z => by cases z) (swap_no2 fun vs k2 p2 z => hnt vs k2 p2 z)
      · cases h
  · cases h
/-- THE STATEMENTS -/
theorem cS_ok (G : Gd X ca W Φ k c) (hsort : Sort_ ca) (hp : PassesOwn (model X.prog X.w) X.A X.env X.xe) : ∀ (n : Nat) (s : Stmt) (T : S), cS n c s = some T → PS X s (TSx X ca W (denS Φ T))
  | 0, _, _, h => by cases h
  | n + 1, s, T, h => by
    have ih : ∀ e T, cE n c e = some T → Sd X ca W Φ e T := fun e T h => cE_ok hsort n X W c G e T h
    have seq : ∀ {ss : List Stmt} {Ts : List S}, seqE (cS n c) ss = some Ts → PSs X ss (TSx X ca W (denSs Φ Ts)) := by
      intro ss
      induction ss with
      | nil => intro Ts h; cases h; exact xs_nil
      | cons s ss ihs =>
        intro Ts h
        unfold seqE at h
        split at h
        · rename_i y ys h1 h2
          cases h
          exact xs_cons (cS_ok G hsort hp n s y h1) (ihs h2)
        · cases h
    unfold cS at h
    split at h
    · cases h; exact xs_retN
    · obtain ⟨A, e, rfl⟩ := Option.map_eq_some_iff.mp h
      exact xs_ret (ih _ A e).1
    · cases h; exact xs_doc
    · split at h
      · cases h
      · rename_i hc
        obtain ⟨A, e, rfl⟩ := Option.map_eq_some_iff.mp h
        exact xs_expr (ih _ A e).1 (swaps_none (by simpa using hc))
    · cases h; exact xs_pass
    · cases h; exact xs_brk
    · cases h; exact xs_cont
    · split at h
      · rename_i T' A B h1 h2 h3
        cases h
        exact xs_if (ih _ T' h1).2 (seq h2) (seq h3)
      · cases h
    · split at h
      · rename_i T' B h1 h2
        cases h
        exact xs_while hp (ih _ T' h1).2 (seq h2)
      · cases h
    · split at h
      · rename_i g i B h1 h2 h3
        cases h
        obtain ⟨q1, q2⟩ := sd_it G ih h2
        exact xs_for hp G.calm q1 (sd_tg G 9 _ g h1).1 (seq h3) q2
      · cases h
    · split at h
      · cases h
      · rename_i hn
        simp only [not_or, Bool.not_eq_true', Bool.not_eq_false] at hn
        obtain ⟨n1, n2, n3⟩ := hn
        split at h
        · rename_i i A h1 h2
          cases h
          obtain ⟨e1, e2⟩ := G.glob.exs _ i h1
          obtain ⟨o1, fI, fd, ps, o2, o3, o4, o5⟩ := G.glob.rai i e1
          exact xs_raise o1 o2 o3 (G.glob.cls i e1).val o4 G.room o5 (G.gl n2) e2 G.calm G.tk (ih _ A h2).1 (dbg_ne n1) n3
        · cases h
    · exact sd_asg G hsort h
    · cases h
theorem cSs_ok (G : Gd X ca W Φ k c) (hsort : Sort_ ca) (hp : PassesOwn (model X.prog X.w) X.A X.env X.xe) {n : Nat} : ∀ {ss : List Stmt} {Ts : List S}, seqE (cS n c) ss = some Ts → PSs X ss (TSx X ca W (denSs Φ Ts))
  | [], Ts, h => by cases h; exact xs_nil
  | s :: ss, Ts, h => by
    unfold seqE at h
    split at h
    · rename_i y ys h1 h2
      cases h
      exact xs_cons (cS_ok G hsort hp n s y h1) (cSs_ok G hsort hp h2)
    · cases h
end
end Mi

set_option Elab.async false
set_option linter.all false
set_option maxRecDepth 100000
set_option maxHeartbeats 4000000
/-! Mi, part T: the end of a law. -/
namespace Mi
open PySem PySem.Spec PyProof.Rows L2
open LamX

/-- the head's heap as the abstract one: tables, the script -/
def H0 (K : PySem.W.Frag) (T : List Addr) (a : Addr) (o : Obj) (xs : List V) : Hp := fun b => if b ∈ T then some (.tbl #[]) else if b = a ∧ K.lookup a = none then some (.frz o (.lst xs)) else none
theorem H0_tab {K : PySem.W.Frag} {T : List Addr} {a b : Addr} {o : Obj} {xs : List V} (h : b ∈ T) : H0 K T a o xs b = some (.tbl #[]) := by
  unfold H0; rw [if_pos h]
theorem H0_cases {K : PySem.W.Frag} {T : List Addr} {a : Addr} {o : Obj} {xs : List V} (b : Addr) : (b ∈ T ∧ H0 K T a o xs b = some (.tbl #[])) ∨ (b ∉ T ∧ b = a ∧ K.lookup a = none ∧ H0 K T a o xs b = some (.frz o (.lst xs))) ∨ (b ∉ T ∧ H0 K T a o xs b = none) := by
  by_cases h : b ∈ T
  · exact .inl ⟨h, H0_tab h⟩
  · by_cases h2 : b = a ∧ K.lookup a = none
    · exact .inr (.inl ⟨h, h2.1, h2.2, by unfold H0; rw [if_neg h, if_pos h2]⟩)
    · exact .inr (.inr ⟨h, by unfold H0; rw [if_neg h, if_neg h2]⟩)
/-- the law's call: a def with its promise among FnG -/
theorem law_callG {P : Program} {w : World} {K : PySem.W.Frag} {mg mb : Str → Option Value} {k : Nat} {fa a : Addr} {cs : List (Addr × Addr)} {fd : FuncData} {x : Str} {sp : Sp} {s₁ : Shared} {vs : List Value} {ns : List Int}
    (KX : K.In s₁.heap) (hns : s₁.heap.Ns mainGlobals mg) (hb : s₁.heap.Ns builtinsNs mb) (hbb : ∀ x : Str, x ≠ "__name__" → mb x = bootBuiltins x) (hlim : s₁.heap.NoLimit) (hg : s₁.gens = #[])
    (hT : ∀ p ∈ cs, s₁.heap.get? p.2 = some { cls := .none, data := .fields #[] }) (nT : ∀ p ∈ cs, K.lookup p.2 = none) (C : ∀ p ∈ cs, PySem.W.CodeHd s₁.heap p.1 p.2)
    (hbm : ∃ (bm : Addr) (ob : Obj), mg "__builtins__" = some (.ref bm) ∧ bm ≠ builtinsNs ∧ s₁.heap.get? bm = some ob ∧ ob.cls = .type "module" ∧ ob.dict = some builtinsNs ∧ ob.data = .plain)
    (ha : s₁.heap.get? a = some { cls := .type "list", data := .seq vs.toArray }) (hi : IntsAre vs ns) (hl : ns.length ≤ sizeLine) (hr : Room k callerA)
    (F : ∀ base : Heap, K.In base → base.Ns mainGlobals mg → (∀ p ∈ cs, TabB base mg p.1 p.2) → FnG P w K mg base k fa fd [x] sp) (hbind : ∀ (s : Shared) (u : Value), BindsTo s fd ⟨[u], []⟩ [(x, u)])
    (hsp : ∀ H : Hp, (∀ p ∈ cs, H p.2 = some (.tbl #[])) → SqF K H a (ns.map V.int) → sp [.ref a] H (fun v _ => v = .bl true) fun _ _ _ => False) :
    codeAny (model P w) callerA (.call (.ref fa) ⟨[.ref a], []⟩) (fun r s' => r = .ok (.ret (.bool true)) ∧ OldK s₁.heap s'.heap ∧ s'.os = s₁.os ∧ AllBare s'.gens) s₁ := by
  obtain ⟨H, eH⟩ : ∃ H, H = H0 K (cs.map (·.2)) a { cls := .type "list", data := .seq vs.toArray } (ns.map V.int) := ⟨_, rfl⟩
  have isT : ∀ b ∈ cs.map (·.2), s₁.heap.get? b = some { cls := .none, data := .fields #[] } ∧ K.lookup b = none ∧ ∃ c, (c, b) ∈ cs := fun b hb => by
    obtain ⟨p, hp, rfl⟩ := List.mem_map.mp hb
    exact ⟨hT p hp, nT p hp, p.1, hp⟩
  have rv := vals_ints hi
  have memT : ∀ p ∈ cs, p.2 ∈ cs.map (·.2) := fun p hp => List.mem_map.mpr ⟨p, hp, rfl⟩
  have tabs : ∀ p ∈ cs, H p.2 = some (.tbl #[]) := fun p hp => by rw [eH]; exact H0_tab (memT p hp)
  have aT : a ∉ cs.map (·.2) := fun z => by
    have e := ha.symm.trans (isT a z).1
    have e := congrArg Obj.data (Option.some.inj e)
    cases e
  -- what is tracked, as it lies
  have see : ∀ b, H b = none ∨ (s₁.heap.get? b = some { cls := .none, data := .fields #[] } ∧ K.lookup b = none) ∨ (b = a ∧ K.lookup a = none) := fun b => by
    rcases H0_cases (K := K) (T := cs.map (·.2)) (a := a) (o := { cls := .type "list", data := .seq vs.toArray }) (xs := ns.map V.int) b with ⟨h, _⟩ | ⟨_, h, h2, _⟩ | ⟨_, h⟩
    · exact .inr (.inl ⟨(isT b h).1, (isT b h).2.1⟩)
    · exact .inr (.inr ⟨h, h2⟩)
    · rw [eH]; exact .inl h
  have free : ∀ {b : Addr} {o : Obj}, s₁.heap.get? b = some o → (∀ vs n, o.data ≠ .seq vs n) → o.data ≠ .fields #[] → H b = none := fun {b o} e h1 h2 => by
    rcases see b with h | ⟨h, _⟩ | ⟨h, _⟩
    · exact h
    · rw [e] at h; cases h; exact (h2 rfl).elim
    · rw [h, ha] at e; cases e; exact (h1 _ _ rfl).elim
  have nsB : ∀ {b : Addr} {m : Str → Option Value}, s₁.heap.Ns b m → (hidT s₁.heap H).Ns b m := fun {b m} ⟨o, es, ep, e, d, r⟩ =>
    ⟨o, es, ep, hidT_get e (free e (fun vs n z => by rw [d] at z; cases z) fun z => by rw [d] at z; cases z), d, r⟩
  have kB : K.In (hidT s₁.heap H) := fun b o e => hidT_get (KX b o e) (by
    rcases see b with h | ⟨_, h⟩ | ⟨h, h2⟩
    · exact h
    · rw [h] at e; cases e
    · rw [h, h2] at e; cases e)
  have hok : HOk P w H s₁.heap := fun b u e => by
    rcases H0_cases (K := K) (T := cs.map (·.2)) (a := a) (o := { cls := .type "list", data := .seq vs.toArray }) (xs := ns.map V.int) b with ⟨h, q⟩ | ⟨_, rfl, _, q⟩ | ⟨_, q⟩
    · rw [eH, q] at e; cases e; exact (isT b h).1
    · rw [eH, q] at e; cases e; exact ⟨ha, by rw [List.length_map]; exact hl, vs, _, rv, ha⟩
    · rw [eH, q] at e; cases e
  have script : SqF K H a (ns.map V.int) := by
    cases e : K.lookup a with
    | none =>
      left
      rcases H0_cases (K := K) (T := cs.map (·.2)) (a := a) (o := { cls := .type "list", data := .seq vs.toArray }) (xs := ns.map V.int) a with ⟨h, _⟩ | ⟨_, _, _, q⟩ | ⟨_, q⟩
      · exact absurd h aT
      · exact ⟨_, by rw [eH]; exact q⟩
      · unfold H0 at q
        rw [if_neg aT, if_pos ⟨rfl, e⟩] at q
        cases q
    | some o =>
      have q := KX a o e
      rw [ha] at q
      cases q
      exact .inr ⟨_, vs.toArray, _, e, rfl, rfl, rfl, by rw [List.size_toArray, hi.length]; exact hl, by simpa using rv⟩
  have TB : ∀ p ∈ cs, TabB (hidT s₁.heap H) mg p.1 p.2 := fun p hp => by
    refine ⟨?_, ?_, fun z => ?_⟩
    · obtain ⟨o, us, file, tf, flags, tg, inF, text, tt, e1, r1, r2, r3, rest⟩ := C p hp
      refine ⟨o, us, file, tf, flags, tg, inF, text, tt, hidT_get e1 (free e1 (fun vs n z => by rw [r2] at z; cases z) fun z => ?_), r1, r2, r3, rest⟩
      rw [r2] at z
      cases z
      simp at r3
    · obtain ⟨bm, ob, b1, b2, b3, b4, b5, b6⟩ := hbm
      refine ⟨bm, ob, b1, b2, fun q => ?_, fun q => ?_, hidT_get b3 (free b3 (fun vs n z => by rw [b6] at z; cases z) fun z => by rw [b6] at z; cases z), b4, b5, b6⟩
      · obtain ⟨o, es, ep, e, hd, _⟩ := hns
        rw [q, e] at b3
        cases b3
        rw [hd] at b6
        cases b6
      · rw [q, hT p hp] at b3
        cases b3
        cases b6
    · obtain ⟨o, es, ep, e, hd, _⟩ := hns
      rw [z, hT p hp] at e
      cases e
      cases hd
  obtain ⟨mc, l1, l2⟩ := hlim
  have e0 : Env0 P w K mg (hidT s₁.heap H) callerA [] s₁ H := ⟨rfl, ⟨kB, nsB hns, ⟨mb, nsB hb, hbb⟩, ⟨mc, nsB l1, l2⟩⟩, fun b o e => of_hidT e, Nat.le_of_eq (hidT_size _ _), trivial, fun b hb => absurd (show b ∈ ([] : List Addr) from hb) (by simp), hok, .of_eq hg⟩
  refine codeAny_mono ((F _ kB (nsB hns) TB).run callerA [] s₁ H ⟨[.ref a], []⟩ [.ref a] [.ref a] _ _ rfl hr e0 (hbind s₁ (.ref a)) (.cons rfl .nil) (hsp H tabs script)) fun r s' h => ?_
  cases r with
  | error e =>
    obtain ⟨_, _, _, _, _, _, _, _, _, _, _, _, z⟩ := h
    exact z.elim
  | ok fl =>
    cases fl with
    | ret u =>
      obtain ⟨v, H', os, bare, un, hok', r', q⟩ := h
      have q : v = .bl true := q
      subst q
      obtain rfl : u = Value.bool true := r'
      have grown : ∀ b ∈ cs.map (·.2), ∃ more : Array Value, s'.heap.get? b = some { cls := .none, data := .fields more } := fun b hb => by
        obtain ⟨more, z⟩ := un.tbls b #[] (by rw [eH]; exact H0_tab hb)
        exact ⟨_, hok' b _ z⟩
      have kept : ∀ b o, b ∉ cs.map (·.2) → s₁.heap.get? b = some o → s'.heap.get? b = some o := fun b o nb e => by
        rcases H0_cases (K := K) (T := cs.map (·.2)) (a := a) (o := { cls := .type "list", data := .seq vs.toArray }) (xs := ns.map V.int) b with ⟨h, _⟩ | ⟨_, _, _, q⟩ | ⟨_, q⟩
        · exact absurd h nb
        · rw [← eH] at q
          obtain ⟨e1, _⟩ := hok b _ q
          obtain ⟨e2, _⟩ := hok' b _ (un.frzs b _ _ q)
          rw [e] at e1
          cases e1
          exact e2
        · rw [← eH] at q
          exact un.keep b o e q (by intro z; exact absurd (show b ∈ ([] : List Addr) from z) (by simp)) (by simp)
      refine ⟨rfl, ⟨fun b o e => ?_, fun b o e => ?_⟩, os, bare⟩
      · by_cases hb : b ∈ cs.map (·.2)
        · obtain ⟨q1, _, c, hc⟩ := isT b hb
          obtain ⟨more, hm⟩ := grown b hb
          rw [q1] at e
          cases e
          exact .inr (.inl ⟨((C _ hc).tab q1).isCodeTable, rfl, #[], more, rfl, by rw [Array.empty_append]; exact hm⟩)
        · exact .inl (kept b o hb e)
      · by_cases hb : b ∈ cs.map (·.2)
        · obtain ⟨more, hm⟩ := grown b hb
          exact ⟨_, hm⟩
        · exact ⟨o, kept b o hb e⟩
    | _ => exact False.elim h
/-- what is known of the law's promise at the head's heap -/
def LawAtG (l : PySem.W.OpenLaw) (w : World) (K : PySem.W.Frag) (k n : Nat) (x : Str) (mg : Str → Option Value) (fa : Addr) (h : Heap) : Prop :=
  ∃ (fd : FuncData) (cs : List (Addr × Addr)) (sp : Sp), (∀ p ∈ cs, h.get? p.2 = some { cls := .none, data := .fields #[] }) ∧ (∀ p ∈ cs, K.lookup p.2 = none) ∧ (∀ p ∈ cs, PySem.W.CodeHd h p.1 p.2) ∧ (∀ (s : Shared) (u : Value), BindsTo s fd ⟨[u], []⟩ [(x, u)]) ∧
    (∀ (H : Hp) (a : Addr) (ns : List Int), ns.length ≤ n → (∀ z ∈ ns, Builtin.Int.intBits z ≤ 1048576) → (∀ p ∈ cs, H p.2 = some (.tbl #[])) → SqF K H a (ns.map V.int) → sp [.ref a] H (fun v _ => v = .bl true) fun _ _ _ => False) ∧
    ∀ base : Heap, K.In base → base.Ns mainGlobals mg → (∀ p ∈ cs, TabB base mg p.1 p.2) → FnG l.prog w K mg base k fa fd [x] sp
theorem walk_ofG {l : PySem.W.OpenLaw} {n k : Nat} {q : Program} {loose : List Str} {XP : (Str → Option Value) → Heap → Prop} {YP : World → Heap → Prop} {d : DefRec} {x : Str} (hn : l.most = some n) (hn2 : n ≤ sizeLine) (hdf : d.params.defaults = []) (hr : Room k callerA)
    (F : ∀ (w : World) (mg : Str → Option Value) (fa : Addr) (h : Heap), YP w h → h.Ns mainGlobals mg → mg d.name = some (.ref fa) → ∃ K : PySem.W.Frag, K.In h ∧ LawAtG l w K k n x mg fa h) :
    PySem.W.WalkO q loose XP YP l.row.toRowW d [] (fun f vs => PySem.call f vs) := by
  refine Att.attach_callB hn hdf fun w s₀ s₁ mg mb fa o pm cd doc a vs ns G Y ho hd hcd hmg hobj hints hlen hbits hg => ?_
  obtain ⟨K, KX, fd, cs, sp, hT, nT, C, hb, hsp, hF⟩ := F w mg fa _ Y G.T.g hmg
  exact law_callG KX G.T.g G.T.b G.T.builtins G.T.nolimit hg hT nT C G.T.bmain hobj hints (Nat.le_trans hlen hn2) hr hF hb fun H hH hS => hsp H a ns hlen hbits hH hS
end Mi

set_option Elab.async false
set_option linter.all false
set_option maxRecDepth 100000
set_option maxHeartbeats 4000000
/-! Mi, part U: all defs of a law. -/
namespace Mi
open PySem PySem.Spec PyProof.Rows L2
open LamX

/-- a def of the text: its name, parameters, body, scope, its parameters' names, all its names (the parameters first), the helper that hears (if it calls it by lambdas) -/
structure Dd where
  x : Str
  args : Arguments
  body : List Stmt
  scope : Scope
  ps : List Str
  N : List Str
  hd : Option Str := none
def Dd.ct (c0 : Ct) (d : Dd) : Ct := { c0 with N := d.N, sc := d.scope.names, hd := d.hd, cl := cellsOf d.scope.names }
def Dd.fn (c0 : Ct) (d : Dd) : Option Fn := (seqE (cS 60 (d.ct c0)) d.body).map fun b => ⟨d.ps.length, d.N.length, b⟩
def Dd.scB (d : Dd) : Bool := decide (d.scope.kind = .function) && !d.scope.isCoroutine && !d.scope.isGenerator && decide d.N.Nodup && (d.N.take d.ps.length == d.ps) &&
  d.ps.all (fun x => d.scope.names.lookup x == some .local || d.scope.names.lookup x == some .cell) && d.scope.names.all fun y => !(y.2 == .free)
theorem Dd.scOk {d : Dd} (h : d.scB = true) : FnScope d.N d.ps d.scope := by
  unfold Dd.scB at h
  simp only [Bool.and_eq_true, decide_eq_true_eq, Bool.not_eq_true', beq_iff_eq, List.all_eq_true, Bool.or_eq_true] at h
  obtain ⟨⟨⟨⟨⟨⟨h1, h2⟩, h3⟩, h4⟩, h5⟩, h6⟩, h7⟩ := h
  exact ⟨h1, h2, h3, h4, h5, h6, fun y hy e => by have := h7 y hy; rw [e] at this; simp at this⟩
/-- how the arguments bind -/
def Dd.Bd (d : Dd) : Prop := ∀ (kV doc pm : Value) (an : Option Addr) (cdv ct : Value) (us : List Value), us.length = d.ps.length → bindArgs (PySem.W.fnOf d.x d.x d.args d.body d.scope .none kV doc pm an cdv ct) ⟨us, []⟩ = pure (d.ps.zip us)
def Dd.fd (d : Dd) : He.DefD := ⟨(d.x, none), d.x, d.x, d.args, d.body, d.scope, [], []⟩
/-- the def stands behind the top -/
def Dd.Has (K : PySem.W.Frag) (mg : Str → Option Value) (d : Dd) : Prop := ∃ f fd, mg d.x = some (.ref f) ∧ FunD K d.x d.x d.args d.body d.scope [] [] f fd

theorem fns_ok {fns : List (Str × Nat)} {ds : List Dd} (h : (fns.all fun p => match ds[p.2]? with
    | some d => decide (d.x = p.1)
    | none => false) = true) : ∀ x i, fns.lookup x = some i → ∃ d, ds[i]? = some d ∧ d.x = x := fun x i e => by
  have m : (x, i) ∈ fns := by
    clear h
    induction fns with
    | nil => cases e
    | cons p r ih =>
      obtain ⟨y, j⟩ := p
      rw [List.lookup_cons] at e
      split at e
      · rename_i q
        cases e
        rw [beq_iff_eq.mp q]
        exact List.mem_cons_self
      · exact List.mem_cons_of_mem _ (ih e)
  have q := List.all_eq_true.mp h _ m
  simp only at q
  split at q
  · rename_i d hd
    exact ⟨d, hd, of_decide_eq_true q⟩
  · cases q
/-- what is known of all that is no def -/
structure Base (P : Program) (w : World) (K : PySem.W.Frag) (mg : Str → Option Value) (base : Heap) (ca : Ca) (c : Ct) : Prop where
  con : ∀ x d, c.cons.lookup x = some d → ∃ u v, mg x = some u ∧ RelV v u ∧ ∀ μ H, RV K μ H d v
  blt : ∀ x ∈ bltNames, mg x = none
  gen : XGen K
  cls : ∀ i, i < c.nx → XCl K (ca i)
  kit : ∀ i j, i < c.nx → j < c.nx → PySem.W.kitOne K (.ref (ca j)) (.ref (ca i)) = some (decide (j = i) || i == 0)
  kitN : ∀ i, i < c.nx → PySem.W.kitOne K (.type "NoneType") (.ref (ca i)) = some false
  exs : ∀ x i, c.exs.lookup x = some i → i < c.nx ∧ mg x = some (.ref (ca i))
  rai : ∀ i, i < c.nx → OexC K (ca i) ∧ ∃ fI fd ps, PySem.W.findIn K (.ref (ca i)) "__init__" = some (some (.ref fI)) ∧ PySem.W.typeIn K (.ref fI) = some (.type "function") ∧ FnOk P w K mg base C8.CX0 1 fI fd ps (spInit K) ∧ L2.Binds K fd ps []
/-- the helper that hears, as a def of the text -/
structure Hear (K : PySem.W.Frag) (mg : Str → Option Value) (base : Heap) (ca : Ca) (d : Dd) (x : Str) : Prop where
  hel : ∃ (g CT : Addr) (pg : Arguments) (pp : Nat → Pos) (kk : Nat → Nat) (sg : Scope) (dV kV doc pm cdv ct oc : Value) (an od : Option Addr) (osl : Array (Option Value)),
    mg x = some (.ref g) ∧ PySem.W.keepIn K (.ref g) = true ∧ K.lookup g = some ⟨oc, od, .func (PySem.W.fnOf x x pg (heardBody pp kk) sg dV kV doc pm an cdv ct), osl⟩ ∧ PySem.W.codeIn K cdv x = true ∧
    L2.Binds K (PySem.W.fnOf x x pg (heardBody pp kk) sg dV kV doc pm an cdv ct) ["call"] [] ∧ FnScope heardN ["call"] sg ∧
    (sg.names.lookup ("call" : Str) = some .local ∧ sg.names.lookup ("caught" : Str) = some .local ∧ sg.names.lookup ("back" : Str) = some .local ∧ sg.names.lookup ("error" : Str) = some .local ∧ sg.names.lookup ("ThreadError" : Str) = some .globalImplicit) ∧
    mg "ThreadError" = some (.ref CT) ∧ (∀ c, PySem.W.exmOne K (.ref (ca c)) (.ref CT) = some true)
  own : ∀ (oc : Value) (od : Option Addr) (fd : FuncData) (osl : Array (Option Value)) (f : Addr), mg d.x = some (.ref f) → K.lookup f = some ⟨oc, od, .func fd, osl⟩ → ∃ c P, fd.code = .ref c ∧ LamX.TabB base mg c P ∧ (P, d.x ++ ".<locals>." ++ "<lambda>") ∈ ca.T ∧ (∀ p ∈ ca.T, p.1 = P → p.2 = d.x ++ ".<locals>." ++ "<lambda>")
theorem FnOk.up {P : Program} {w : World} {K : PySem.W.Frag} {mg : Str → Option Value} {base : Heap} {CX : CXT} {k k' : Nat} {f : Addr} {fd : FuncData} {ps : List Str} {sp : Sp} (F : FnOk P w K mg base CX k f fd ps sp) (h : k ≤ k') : FnOk P w K mg base CX k' f fd ps sp :=
  ⟨F.len, fun A outer s H args us vs Q E hr => F.run A outer s H args us vs Q E (hr.mono h)⟩
theorem seqE_get {α β : Type} {f : α → Option β} : ∀ {l : List α} {m : List β}, seqE f l = some m → ∀ {i : Nat} {x : α}, l[i]? = some x → ∃ y, f x = some y ∧ m[i]? = some y
  | [], _, _, i, x, e => by simp at e
  | a :: l, m, h, i, x, e => by
    unfold seqE at h
    split at h
    · rename_i y ys h1 h2
      cases h
      cases i with
      | zero => simp at e; subst e; exact ⟨y, h1, rfl⟩
      | succ i => simpa using seqE_get h2 (by simpa using e)
    · cases h
section
variable {P : Program} {w : World} {K : PySem.W.Frag} {mg : Str → Option Value} {base : Heap} {ca : Ca} {c0 : Ct} {ds : List Dd} {FT : List Fn}
/-- one def, one call deeper -/
theorem def_fnG (hF : seqE (Dd.fn c0) ds = some FT) (sc : ∀ d ∈ ds, d.scB = true) (hr : ∀ d ∈ ds, ∀ x, d.hd = some x → Hear K mg base ca d x) {n : Nat} (ih : Glob P w K mg base ca (callN FT n) (4 * n + 1) c0) {i : Nat} {d : Dd} (hd : ds[i]? = some d) {f : Addr} {fd : FuncData}
    (hm : mg d.x = some (.ref f)) (F : FunD K d.x d.x d.args d.body d.scope [] [] f fd) : FnG P w K mg base (4 * (n + 1) + 1) f fd d.ps (spG K w ca (callN FT (n + 1) i)) := by
  have md := List.mem_of_getElem? hd
  obtain ⟨fn, e, hi⟩ := seqE_get hF hd
  obtain ⟨Ts, e2, rfl⟩ := Option.map_eq_some_iff.mp e
  obtain ⟨oc, od, dV, kV, doc, pm, an, cdv, ct, osl, rfl, lk, hcd, _, _⟩ := F.ex
  have S := Dd.scOk (sc d md)
  refine fnG_of (k := 4 * (n + 1)) lk hcd S hi rfl rfl fun A outer s H E hg hroom => ?_
  have G : Gd (cxOf (L2.CX P w) P w K mg base d.N d.x d.scope f cdv A outer s H E) ca E (callN FT n) (4 * n + 1) (d.ct c0) := by
    refine ⟨rfl, S.nd, rfl, S.kind, rfl, ?_, hroom.mono (by omega), fun _ => hroom.mono (by omega), takes_of rfl rfl rfl rfl, fun _ _ => rfl, ⟨ih.fn, ih.con, ih.blt, ih.gen, ih.cls, ih.kit, ih.kitN, ih.exs, ih.rai⟩, fun x hx => ?_⟩
    · exact hg
    · have R := hr d md x hx
      obtain ⟨g, CT, pg, pp, kk, sg, dV', kV', doc', pm', cdv', ct', oc', an', od', osl', q1, q2, q3, q4, q5, q6, q7, q8, q9⟩ := R.hel
      obtain ⟨c, Pt, r1, r2, r3, r4⟩ := R.own _ _ _ _ f hm lk
      exact ⟨⟨g, c, Pt, CT, pg, pp, kk, sg, dV', kV', doc', pm', cdv', ct', oc', an', od', osl', q1, q2, q3, q4, q5, q6, q7, q8, q9, r2, r1, r3, r4⟩⟩
  exact cSs_ok G sort_ok (passes_of rfl) e2
/-- ALL DEFS, to any depth of calls -/
theorem all_defs (B : Base P w K mg base ca c0) (hK : K.In base) (hn : ∀ x i, c0.fns.lookup x = some i → ∃ d, ds[i]? = some d ∧ d.x = x) (hF : seqE (Dd.fn c0) ds = some FT) (sc : ∀ d ∈ ds, d.scB = true) (bd : ∀ d ∈ ds, d.Bd) (has : ∀ d ∈ ds, d.Has K mg)
    (hr : ∀ d ∈ ds, ∀ x, d.hd = some x → Hear K mg base ca d x) : ∀ n : Nat, Glob P w K mg base ca (callN FT n) (4 * n + 1) c0 := by
  have mk : ∀ n, (∀ x i, c0.fns.lookup x = some i → ∃ f fd ps, mg x = some (.ref f) ∧ PySem.W.keepIn K (.ref f) = true ∧ L2.Binds K fd ps [] ∧ FnG P w K mg base (4 * n + 1) f fd ps (spG K w ca (callN FT n i))) → Glob P w K mg base ca (callN FT n) (4 * n + 1) c0 := fun n h =>
    ⟨h, B.con, B.blt, B.gen, B.cls, B.kit, B.kitN, B.exs, fun i hi => by
      obtain ⟨h1, fI, fd, ps, h2, h3, h4, h5⟩ := B.rai i hi
      exact ⟨h1, fI, fd, ps, h2, h3, FnOk.up h4 (by omega), h5⟩⟩
  have binds : ∀ d ∈ ds, ∃ f fd, mg d.x = some (.ref f) ∧ FunD K d.x d.x d.args d.body d.scope [] [] f fd ∧ L2.Binds K fd d.ps [] := fun d hd => by
    obtain ⟨f, fd, hm, F⟩ := has d hd
    exact ⟨f, fd, hm, F, FunD.bindsN F (bd d hd)⟩
  intro n
  induction n with
  | zero =>
    refine mk 0 fun x i hx => ?_
    obtain ⟨d, hd, rfl⟩ := hn x i hx
    obtain ⟨f, fd, hm, F, b⟩ := binds d (List.mem_of_getElem? hd)
    refine ⟨f, fd, d.ps, hm, F.kp, b, ⟨fun vs H Q E ⟨μ, st, ds, _, _, h⟩ => False.elim h, fun A outer s H args us vs Q E _ _ _ _ _ ⟨μ, st, ds, _, _, h⟩ => False.elim h⟩⟩
  | succ n ih =>
    refine mk (n + 1) fun x i hx => ?_
    obtain ⟨d, hd, rfl⟩ := hn x i hx
    obtain ⟨f, fd, hm, F, b⟩ := binds d (List.mem_of_getElem? hd)
    exact ⟨f, fd, d.ps, hm, F.kp, b, def_fnG hF sc hr ih hd hm F⟩
end
end Mi

set_option Elab.async false
set_option linter.all false
set_option maxRecDepth 100000
set_option maxHeartbeats 4000000
/-! Mi, part V: what the head tells. -/
namespace Mi
open PySem PySem.Spec PyProof.Rows L2
open LamX

/-- an own exception's class, as one of the layer's -/
def oexB (K : PySem.W.Frag) (C : Addr) : Bool := match K.lookup C with
  | some ⟨.type "type", _, .cls cd, sl⟩ => (match cd.mro, sl.toList with
    | .ref C' :: bm, [_, _, _, _, some (.builtin n), _] => C' == C && n == "ValueError.__new__" && !cd.hasDel && cd.hasDict && PySem.HandSPX.refsVE bm
    | _, _ => false)
  | _ => false
theorem oexB_ok {K : PySem.W.Frag} {C : Addr} (q : oexB K C = true) : ∃ nm q N bs bm sn sub ab col dd k0 k1 k2 k3 k5, K.lookup C = some (excClassObj nm q C N bs bm true sn sub ab col dd k0 k1 k2 k3 k5 "ValueError.__new__") ∧ PySem.HandSPX.refsVE bm = true := by
  unfold oexB at q
  split at q
  · rename_i dd cd sl ho
    split at q
    · rename_i C' bm k0 k1 k2 k3 n k5 hm hs
      simp only [Bool.and_eq_true, beq_iff_eq, Bool.not_eq_true'] at q
      obtain ⟨⟨⟨⟨rfl, rfl⟩, hdel⟩, hdct⟩, hr⟩ := q
      obtain ⟨nm, bs, mro, ns, qn, hd, sn, sub, ab, col, del⟩ := cd
      dsimp only at hm hdel hdct
      subst hm hdel hdct
      have hsl : sl = #[k0, k1, k2, k3, some (.builtin "ValueError.__new__"), k5] := by
        obtain ⟨l⟩ := sl
        simp only at hs
        rw [hs]
      subst hsl
      exact ⟨_, _, _, _, _, _, _, _, _, _, _, _, _, _, _, ho, hr⟩
    · cases q
  · cases q
def xclB (K : PySem.W.Frag) (C : Addr) : Bool := (PySem.W.clsIn K C).isSome && He.eqO (PySem.W.findIn K (.ref C) "__getattribute__") (some (some (.builtin "BaseException.__getattribute__"))) && He.eqO (PySem.W.findIn K (.ref C) "__getattr__") (some none) &&
  decide (PySem.W.subIn K (.ref C) (.type "BaseException") = some true) && PySem.W.hasDictIn K C && He.eqO (PySem.W.findIn K (.ref C) "__class__") (some (some (.builtin "object.__class__"))) && decide (PySem.W.mroIn K C (.type "object") = some true) && He.eqO (PySem.W.findIn K (.ref C) "value") (some none) &&
  oexB K C && He.eqO (PySem.W.findIn K (.ref C) "__setattr__") (some (some (.builtin "object.__setattr__"))) && decide (PySem.W.typeIn K (.ref C) = some (.type "type")) && PySem.W.keepIn K (.ref C)
theorem xclB_ok {K : PySem.W.Frag} {C : Addr} (h : xclB K C = true) : XCl K C ∧ OexC K C := by
  unfold xclB at h
  simp only [Bool.and_eq_true, decide_eq_true_eq] at h
  obtain ⟨⟨⟨⟨⟨⟨⟨⟨⟨⟨⟨h1, h2⟩, h3⟩, h4⟩, h5⟩, h6⟩, h7⟩, h8⟩, h9⟩, h10⟩, h11⟩, h12⟩ := h
  exact ⟨⟨h1, He.eqO_ok h2, He.eqO_ok h3, h4, h5, He.eqO_ok h6, h7, He.eqO_ok h8⟩, ⟨oexB_ok h9, He.eqO_ok h10, h4, h11, h12⟩⟩

def initAt (K : PySem.W.Frag) : Addr := He.ma K (He.ga K "ThreadError") "__init__"
def excB (K : PySem.W.Frag) (x : Str) : Bool := xclB K (He.ga K x) && decide (PySem.W.kitOne K (.type "NoneType") (.ref (He.ga K x)) = some false) && decide (PySem.W.exmOne K (.ref (He.ga K x)) (.ref (He.ga K "ThreadError")) = some true) &&
  He.eqO (PySem.W.findIn K (.ref (He.ga K x)) "__init__") (some (some (.ref (initAt K))))
def veB (K : PySem.W.Frag) : Bool := match PySem.W.findCls K (.type "ValueError") (.type "type") "__init__" with
  | some (.val (.builtin s)) => s == "ValueError.__init__"
  | _ => false
theorem veB_ok {K : PySem.W.Frag} (h : veB K = true) : PySem.W.findCls K (.type "ValueError") (.type "type") "__init__" = some (.val (.builtin "ValueError.__init__")) := by
  unfold veB at h
  split at h
  · rename_i s e
    rw [e, beq_iff_eq.mp h]
  · cases h
/-- all that the head is asked of the classes -/
def exB (xn : List Str) (K : PySem.W.Frag) : Bool := He.eqO (PySem.W.specialIn K (.builtin "object.__class__") "__get__") (some (some (.builtin "getset_descriptor.__get__"))) && decide (PySem.W.takesIn K (.builtin "object.__class__") = some true) && veB K &&
  decide (PySem.W.typeIn K (.ref (initAt K)) = some (.type "function")) && xn.all (excB K) &&
  (List.range xn.length).all fun i => (List.range xn.length).all fun j => decide (PySem.W.kitOne K (.ref (He.ga K (xn.getD j "ThreadError"))) (.ref (He.ga K (xn.getD i "ThreadError"))) = some (decide (j = i) || i == 0))
def caOf (xn : List Str) (tf : List He.Defn) (K : PySem.W.Frag) : Ca := { cls := fun i => He.ga K (xn.getD i "ThreadError"), T := tf.map fun p => ((He.cT K p).2, p.1 ++ ".<locals>." ++ "<lambda>") }
theorem getD_mem {α : Type} : ∀ {l : List α} {i : Nat} {d : α}, i < l.length → l.getD i d ∈ l
  | [], i, _, h => by simp at h
  | a :: l, 0, d, _ => by simp
  | a :: l, i + 1, d, h => by
    have := getD_mem (l := l) (i := i) (d := d) (by simpa using h)
    simp only [List.getD_cons_succ]
    exact List.mem_cons_of_mem _ this
/-- the init of the root -/
structure InitOk (d : He.DefD) : Prop where
  at_ : d.at_ = (("ThreadError" : Str), some ("__init__" : Str))
  dfl : d.dfl = []
  kwd : d.kwd = []
  sc : FnScope ["self", "value"] ["self", "value"] d.scope
  body : ∃ p1 p2 p3 p4 p5 p6 p7 p8 p9 p10, d.body = initBody p1 p2 p3 p4 p5 p6 p7 p8 p9 p10 ∧ (p2.endLine == p5.line) = true
  gl : d.scope.names.lookup ("ValueError" : Str) = some .globalImplicit
  ls : d.scope.names.lookup ("self" : Str) = some .local
  lv : d.scope.names.lookup ("value" : Str) = some .local
  bd : ∀ (kV doc pm : Value) (an : Option Addr) (cdv ct : Value) (us : List Value), us.length = 2 → bindArgs (PySem.W.fnOf d.name d.qual d.params d.body d.scope .none kV doc pm an cdv ct) ⟨us, []⟩ = pure ((["self", "value"] : List Str).zip us)
section
variable {P : Program} {w : World} {K : PySem.W.Frag} {mg : Str → Option Value} {base : Heap} {xn : List Str} {tf : List He.Defn} {c0 : Ct}
theorem init_eval {env : Env} {p1 p2 p3 p4 p5 : Pos} (hl : (p2.endLine == p5.line) = true) : eval (.Call (.Attribute (.Name "ValueError" p1) "__init__" p2) [.Name "self" p3, .Name "value" p4] [] p5) env = (do
      let ov ← eval (.Name "ValueError" p1) env
      standAt p2.atName
      let (f, first) ← holding [ov] (getMethod ov "__init__" (plainOf (.Name "ValueError" p1) env))
      callWith p5 f first (backTo p5 (starEach [.Name "self" p3, .Name "value" p4] env)) (backToKw p5 (keywordEach [] env))) := by
  show (do
      let ov ← eval (.Name "ValueError" p1) env
      standAt p2.atName
      methodCall (.Name "ValueError" p1) "__init__" p2 p5 env ov (2 + 0) (backTo p5 (starEach [.Name "self" p3, .Name "value" p4] env)) (backToKw p5 (keywordEach [] env))) = _
  refine bind_congr fun ov => bind_congr fun _ => ?_
  exact mcall_line (by rfl) hl
theorem init_ok {d : He.DefD} (D : InitOk d) (hm : mg "ValueError" = none) (hv : veB K = true) {fd : FuncData} (F : FunD K d.name d.qual d.params d.body d.scope (d.dvs K) (d.kws K) (He.fAd K d.at_) fd) : FnOk P w K mg base C8.CX0 1 (initAt K) fd ["self", "value"] (spInit K) ∧ L2.Binds K fd ["self", "value"] [] := by
  have e1 : d.dvs K = [] := by unfold He.DefD.dvs; rw [D.dfl]; rfl
  have e2 : d.kws K = [] := by unfold He.DefD.kws; rw [D.kwd]; rfl
  have e3 : He.fAd K d.at_ = initAt K := by rw [D.at_]; rfl
  rw [e1, e2, e3] at F
  refine ⟨?_, FunD.bindsN F D.bd⟩
  refine F.ok D.sc (fun vs H Q E h => ?_) fun cdv A outer s H vs Q E hr h => ?_
  · obtain ⟨a, C, y, rfl, _⟩ := h
    rfl
  · obtain ⟨p1, p2, p3, p4, p5, p6, p7, p8, p9, p10, eb, hl⟩ := D.body
    refine ⟨_, ?_, init_run h⟩
    rw [eb]
    refine init_pss (plainOf (.Name "ValueError" p1) (envOfC d.qual d.scope s.heap.objs.size (initAt K) cdv)) rfl rfl (.inl D.ls) (.inl D.lv) D.gl hm (veB_ok hv) ?_
    exact init_eval hl
end
end Mi

set_option Elab.async false
set_option linter.all false
set_option maxRecDepth 100000
set_option maxHeartbeats 4000000
/-! Mi, part W: from the head to the law's promise. -/
namespace Mi
open PySem PySem.Spec PyProof.Rows L2
open LamX

/-- the places and numbers of the helper that hears -/
def heardPos : List Stmt → List Pos × List Nat
  | [.Assign [.Tuple [.Name _ p0, .Name _ p1] k0 p2] (.Tuple [.Constant _ k1 p3, .Constant _ k2 p4] k3 p5) p6,
     .Try [.Assign [.Name _ p7] (.Call (.Name _ p8) _ _ p9) p10] [.ExceptHandler (some (.Name _ p11)) _ [.Assign [.Name _ p12] (.Name _ p13) p14] p15] _ _ p16,
     .Return (some (.Tuple [.Name _ p17, .Name _ p18] k4 p19)) p20] => ([p0, p1, p2, p3, p4, p5, p6, p7, p8, p9, p10, p11, p12, p13, p14, p15, p16, p17, p18, p19, p20], [k0, k1, k2, k3, k4])
  | _ => ([], [])
def hpp (b : List Stmt) (n : Nat) : Pos := (heardPos b).1.getD n ⟨0, 0, 0, 0⟩
def hkk (b : List Stmt) (n : Nat) : Nat := (heardPos b).2.getD n 0
def conFa : Str × D → He.Fa
  | (x, .int i) => .int x i
  | (x, .str z) => .str x z
  | (x, _) => .glo x
def conOk : D → Bool
  | .int _ => true
  | .str _ => true
  | _ => false
/-- a law's data -/
structure Law where
  ds : List Dd
  c0 : Ct
  FT : List Fn
  xn : List Str
  tf : List He.Defn
  init : He.DefD
  hear : Dd
def Law.fa (L : Law) : List He.Fa := L.ds.map (fun d => He.Fa.glo d.x) ++ (L.xn.map He.Fa.glo ++ (bltNames.map He.Fa.free ++ (L.c0.cons.map conFa ++ [He.Fa.glo L.hear.x])))
def Law.fn (L : Law) : List He.DefD := L.ds.map Dd.fd ++ [L.init, L.hear.fd]
def Law.ex (L : Law) (K : PySem.W.Frag) : Bool := exB L.xn K && decide ((L.tf.map fun p => (He.cT K p).2).Nodup)
/-- what the kernel sees of the data -/
structure LawOk (L : Law) : Prop where
  scs : ∀ d ∈ L.ds, d.scB = true
  hF : seqE (Dd.fn L.c0) L.ds = some L.FT
  bds : ∀ d ∈ L.ds, d.Bd
  hn : ∀ x i, L.c0.fns.lookup x = some i → ∃ d, L.ds[i]? = some d ∧ d.x = x
  cons : (L.c0.cons.all fun p => conOk p.2) = true
  x0 : L.xn[0]? = some ("ThreadError" : Str)
  nx : L.c0.nx = L.xn.length
  exs : (L.c0.exs.all fun p => decide (L.xn[p.2]? = some p.1)) = true
  hds : (L.ds.all fun d => match d.hd with
    | some x => decide (x = L.hear.x) && L.tf.any fun p => decide (p.1 = d.x) && p.2.isNone
    | none => true) = true
  tfn : (L.tf.all fun p => p.2.isNone) = true
  init : InitOk L.init
  hsc : L.hear.scB = true
  hbd : L.hear.Bd
  hN : L.hear.N = heardN
  hps : L.hear.ps = [("call" : Str)]
  hbody : ∃ pp kk, L.hear.body = heardBody pp kk
  hlk : L.hear.scope.names.lookup ("call" : Str) = some .local ∧ L.hear.scope.names.lookup ("caught" : Str) = some .local ∧ L.hear.scope.names.lookup ("back" : Str) = some .local ∧ L.hear.scope.names.lookup ("error" : Str) = some .local ∧ L.hear.scope.names.lookup ("ThreadError" : Str) = some .globalImplicit
theorem lookup_mem {α : Type} {l : List (Str × α)} {x : Str} {v : α} (e : l.lookup x = some v) : (x, v) ∈ l := by
  induction l with
  | nil => cases e
  | cons p r ih =>
    obtain ⟨y, j⟩ := p
    rw [List.lookup_cons] at e
    split at e
    · rename_i q
      cases e
      rw [beq_iff_eq.mp q]
      exact List.mem_cons_self
    · exact List.mem_cons_of_mem _ (ih e)
section
variable {P : Program} {w : World} {K : PySem.W.Frag} {mg : Str → Option Value} {base h : Heap} {L : Law}
theorem ca_cls {i : Nat} {x : Str} (e : L.xn[i]? = some x) : caOf L.xn L.tf K i = He.ga K x := by
  show He.ga K (L.xn.getD i "ThreadError") = _
  rw [List.getD_eq_getElem?_getD, e]; rfl
theorem has_of (c : He.SaysD L.fa L.fn K) (hK : K.In base) (G : base.Ns mainGlobals mg) {d : Dd} (hd : d ∈ L.ds) : mg d.x = some (.ref (He.ga K d.x)) ∧ ∃ fd, FunD K d.x d.x d.args d.body d.scope [] [] (He.ga K d.x) fd := by
  refine ⟨He.glo_ok hK G (c.facts (f := .glo d.x) ?_), ?_⟩
  · exact List.mem_append_left _ (List.mem_map.mpr ⟨d, hd, rfl⟩)
  · obtain ⟨fd, F⟩ := c.defs (d := d.fd) (List.mem_append_left _ (List.mem_map.mpr ⟨d, hd, rfl⟩))
    exact ⟨fd, F⟩
theorem bse_of (O : LawOk L) (c : He.SaysD L.fa L.fn K) (hex : L.ex K = true) (hK : K.In base) (G : base.Ns mainGlobals mg) : Base P w K mg base (caOf L.xn L.tf K) L.c0 := by
  obtain ⟨e, _⟩ := He.ba hex
  unfold exB at e
  simp only [Bool.and_eq_true, decide_eq_true_eq, List.all_eq_true] at e
  obtain ⟨⟨⟨⟨⟨e1, e2⟩, e3⟩, e4⟩, e5⟩, e6⟩ := e
  have blt : ∀ x ∈ bltNames, mg x = none := fun x hx => He.free_ok hK G (c.facts (f := .free x) (List.mem_append_right _ (List.mem_append_right _ (List.mem_append_left _ (List.mem_map.mpr ⟨x, hx, rfl⟩)))))
  have exc : ∀ i, i < L.c0.nx → ∃ x, L.xn[i]? = some x ∧ x ∈ L.xn ∧ excB K x = true := fun i hi => by
    rw [O.nx] at hi
    have q : L.xn[i]? = some L.xn[i] := List.getElem?_eq_getElem hi
    exact ⟨_, q, List.mem_of_getElem? q, e5 _ (List.mem_of_getElem? q)⟩
  obtain ⟨fdI, FI⟩ := c.defs (d := L.init) (List.mem_append_right _ (by simp))
  obtain ⟨i1, i2⟩ := init_ok (P := P) (w := w) (base := base) O.init (blt "ValueError" (by decide)) e3 FI
  refine ⟨fun x d hx => ?_, blt, ⟨He.eqO_ok e1, e2⟩, fun i hi => ?_, fun i j hi hj => ?_, fun i hi => ?_, fun x i hx => ?_, fun i hi => ?_⟩
  · have m := lookup_mem hx
    have f := c.facts (f := conFa (x, d)) (List.mem_append_right _ (List.mem_append_right _ (List.mem_append_right _ (List.mem_append_left _ (List.mem_map.mpr ⟨_, m, rfl⟩)))))
    have q := List.all_eq_true.mp O.cons _ m
    cases d with
    | int n =>
      obtain ⟨t, g⟩ := He.int_ok hK G f
      exact ⟨_, .int n, g, ⟨t, rfl⟩, fun _ _ => .int n⟩
    | str z =>
      obtain ⟨t, g⟩ := He.str_ok hK G f
      exact ⟨_, .str z, g, ⟨t, rfl⟩, fun _ _ => .str z⟩
    | _ => cases q
  · obtain ⟨x, q1, _, q3⟩ := exc i hi
    rw [ca_cls q1]
    unfold excB at q3
    simp only [Bool.and_eq_true] at q3
    exact (xclB_ok q3.1.1.1).1
  · have q := e6 i (by rw [List.mem_range, ← O.nx]; exact hi) j (by rw [List.mem_range, ← O.nx]; exact hj)
    exact q
  · obtain ⟨x, q1, _, q3⟩ := exc i hi
    rw [ca_cls q1]
    unfold excB at q3
    simp only [Bool.and_eq_true, decide_eq_true_eq] at q3
    exact q3.1.1.2
  · have q := of_decide_eq_true (List.all_eq_true.mp O.exs _ (lookup_mem hx))
    have hi : i < L.xn.length := by
      rcases Nat.lt_or_ge i L.xn.length with z | z
      · exact z
      · simp only [List.getElem?_eq_none z] at q; cases q
    refine ⟨by rw [O.nx]; exact hi, ?_⟩
    rw [ca_cls q]
    exact He.glo_ok hK G (c.facts (f := .glo x) (List.mem_append_right _ (List.mem_append_left _ (List.mem_map.mpr ⟨x, List.mem_of_getElem? q, rfl⟩))))
  · obtain ⟨x, q1, _, q3⟩ := exc i hi
    rw [ca_cls q1]
    unfold excB at q3
    simp only [Bool.and_eq_true, decide_eq_true_eq] at q3
    exact ⟨(xclB_ok q3.1.1.1).2, initAt K, fdI, _, He.eqO_ok q3.2, e4, i1, i2⟩
theorem hear_of (O : LawOk L) (c : He.SaysD L.fa L.fn K) (hex : L.ex K = true) (hK : K.In base) (G : base.Ns mainGlobals mg) (hT : ∀ p ∈ L.tf.map (He.cT K), TabB base mg p.1 p.2) {d : Dd} (hd : d ∈ L.ds) {x : Str} (hx : d.hd = some x) : Hear K mg base (caOf L.xn L.tf K) d x := by
  obtain ⟨e, nd⟩ := He.ba hex
  have nd := of_decide_eq_true nd
  unfold exB at e
  simp only [Bool.and_eq_true, decide_eq_true_eq, List.all_eq_true] at e
  obtain ⟨⟨⟨⟨⟨e1, e2⟩, e3⟩, e4⟩, e5⟩, e6⟩ := e
  have q := List.all_eq_true.mp O.hds d hd
  rw [hx] at q
  simp only [Bool.and_eq_true, decide_eq_true_eq, List.any_eq_true] at q
  obtain ⟨rfl, p, hp, ep, hp2⟩ := q
  obtain ⟨p1, p2⟩ := p
  cases p2 with
  | some z => cases hp2
  | none =>
  replace ep : p1 = d.x := ep
  subst ep
  have m0 : ("ThreadError" : Str) ∈ L.xn := List.mem_of_getElem? O.x0
  obtain ⟨pp, kk, eb⟩ := O.hbody
  obtain ⟨fh, Fh⟩ := c.defs (d := L.hear.fd) (List.mem_append_right _ (by simp))
  have Fh : FunD K L.hear.x L.hear.x L.hear.args L.hear.body L.hear.scope [] [] (He.ga K L.hear.x) fh := Fh
  have bh : L2.Binds K fh L.hear.ps [] := FunD.bindsN Fh O.hbd
  have sh := Dd.scOk O.hsc
  rw [O.hps] at bh
  rw [O.hN, O.hps] at sh
  refine ⟨?_, fun oc od fd osl f hm lk => ?_⟩
  · obtain ⟨oc, od, dV, kV, doc, pm, an, cdv, ct, osl, rfl, lk, hcd, _, _⟩ := Fh.ex
    rw [eb] at lk bh
    refine ⟨He.ga K L.hear.x, He.ga K "ThreadError", L.hear.args, pp, kk, L.hear.scope, dV, kV, doc, pm, cdv, ct, oc, an, od, osl, ?_, Fh.kp, lk, hcd, bh, sh, O.hlk, ?_, fun i => ?_⟩
    · exact He.glo_ok hK G (c.facts (f := .glo L.hear.x) (List.mem_append_right _ (List.mem_append_right _ (List.mem_append_right _ (List.mem_append_right _ (by simp))))))
    · exact He.glo_ok hK G (c.facts (f := .glo "ThreadError") (List.mem_append_right _ (List.mem_append_left _ (List.mem_map.mpr ⟨_, m0, rfl⟩))))
    · have key : ∀ y ∈ L.xn, PySem.W.exmOne K (.ref (He.ga K y)) (.ref (He.ga K "ThreadError")) = some true := fun y hy => by
        have q := e5 y hy
        unfold excB at q
        simp only [Bool.and_eq_true, decide_eq_true_eq] at q
        exact q.1.2
      show PySem.W.exmOne K (.ref (He.ga K (L.xn.getD i "ThreadError"))) _ = _
      rcases Nat.lt_or_ge i L.xn.length with z | z
      · exact key _ (getD_mem z)
      · rw [List.getD_eq_getElem?_getD, List.getElem?_eq_none z]
        exact key _ m0
  · obtain ⟨g1, fd', F⟩ := has_of c hK G hd
    rw [g1] at hm
    cases hm
    obtain ⟨oc', od', dV, kV, doc, pm, an, cdv, ct, osl', rfl, lk', hcd, _, _⟩ := F.ex
    rw [lk'] at lk
    cases lk
    obtain ⟨cc, rfl⟩ := He.codeIn_ref hcd
    have ec : He.codeOf K (d.x, none) = cc := He.codeOf_eq (p := (d.x, none)) lk' rfl
    refine ⟨cc, (He.cT K (d.x, none)).2, rfl, ?_, ?_, ?_⟩
    · have := hT (He.cT K (d.x, none)) (List.mem_map.mpr ⟨_, hp, rfl⟩)
      have e : (He.cT K (d.x, none)).1 = cc := ec
      rw [e] at this
      exact this
    · exact List.mem_map.mpr ⟨_, hp, rfl⟩
    · intro q hq e
      obtain ⟨r, hr, rfl⟩ := List.mem_map.mp hq
      have : r = (d.x, none) := by
        have inj : ∀ {l : List He.Defn} {a b : He.Defn}, (l.map fun p => (He.cT K p).2).Nodup → a ∈ l → b ∈ l → (He.cT K a).2 = (He.cT K b).2 → a = b := by
          intro l
          induction l with
          | nil => intro a b _ h; cases h
          | cons z l ih =>
            intro a b n ha hb e
            simp only [List.map_cons, List.nodup_cons, List.mem_map, not_exists, not_and] at n
            rcases List.mem_cons.mp ha with ea | ha'
            · rcases List.mem_cons.mp hb with eb | hb'
              · rw [ea, eb]
              · exact (n.1 b hb' (by rw [← ea]; exact e.symm)).elim
            · rcases List.mem_cons.mp hb with eb | hb'
              · exact (n.1 a ha' (by rw [← eb]; exact e)).elim
              · exact ih n.2 ha' hb' e
        exact inj nd hr hp e
      rw [this]
theorem rvs_ints {μ : List Addr} {H : Hp} : ∀ ns : List Int, RVs K μ H (ns.map D.int) (ns.map V.int)
  | [] => .nil
  | n :: ns => .cons (.int n) (rvs_ints ns)
/-- the law's promise, of what the pure language says -/
theorem law_at (O : LawOk L) {l : PySem.W.OpenLaw} {n m i : Nat} {x : Str} {fa : Addr} (c : He.SaysX L.fa L.fn [] L.tf L.ex w h K) (KX : K.In h) (G : h.Ns mainGlobals mg) {d : Dd} (hd : L.ds[i]? = some d) (hm : mg d.x = some (.ref fa)) (hps : d.ps = [x])
    (plain : ∀ ns : List Int, ns.length ≤ n → (∀ z ∈ ns, Builtin.Int.intBits z ≤ 1048576) → ∃ st, callN L.FT (m + 1) i [.frz (ns.map D.int)] [] = .ok (.bl true) st) : LawAtG l w K (4 * (m + 1) + 1) n x mg fa h := by
  have cd := c.t.d
  have md := List.mem_of_getElem? hd
  obtain ⟨g1, fd, F⟩ := has_of cd KX G md
  rw [g1] at hm
  cases hm
  have bd : ∀ (s : Shared) (us : List Value), us.length = d.ps.length → BindsTo s fd ⟨us, []⟩ (d.ps.zip us) := FunD.bindsA F (O.bds d md)
  refine ⟨fd, L.tf.map (He.cT K), spG K w (caOf L.xn L.tf K) (callN L.FT (m + 1) i), fun p hp => ?_, fun p hp => ?_, fun p hp => ?_, fun s u => ?_, fun H a ns hl hb hT hS => ?_, fun base hK hG hTB => ?_⟩
  · obtain ⟨q, hq, rfl⟩ := List.mem_map.mp hp
    exact c.empty q hq
  · obtain ⟨q, hq, rfl⟩ := List.mem_map.mp hp
    exact c.out q hq
  · obtain ⟨q, hq, rfl⟩ := List.mem_map.mp hp
    exact PySem.W.codeHd_of_K KX (c.hd q hq)
  · have := bd s [u] (by rw [hps]; rfl)
    rw [hps] at this
    exact this
  · obtain ⟨st, e⟩ := plain ns hl hb
    refine ⟨[], [], [.frz (ns.map D.int)], ⟨rfl, by simp, fun n o a e => by simp at e, fun q hq => ?_⟩, .cons (.frz hS (rvs_ints ns)) .nil, ?_⟩
    · obtain ⟨p, hp, rfl⟩ := List.mem_map.mp hq
      refine ⟨#[], hT _ (List.mem_map.mpr ⟨p, hp, rfl⟩), ?_, fun pos cv hc => ?_⟩
      · exact True.intro
      · cases hc
    · rw [e]
      intro μ' H' v _ _ r
      cases r
      rfl
  · have hears := fun d hd x hx => hear_of O cd c.more hK hG hTB (d := d) hd (x := x) hx
    have ih := all_defs (P := l.prog) (w := w) (bse_of O cd c.more hK hG) hK O.hn O.hF O.scs O.bds (fun d hd => by
      obtain ⟨q1, fd, F⟩ := has_of cd hK hG hd
      exact ⟨_, fd, q1, F⟩) hears m
    have := def_fnG O.hF O.scs hears ih hd (has_of cd hK hG md).1 F
    rw [hps] at this
    exact this
end
end Mi

set_option Elab.async false
set_option linter.all false
set_option maxRecDepth 100000
set_option maxHeartbeats 1000000
/-! Mi, part X: reasoning about the pure language. -/
namespace Mi

/-- it ends by Q, or by an exception with X -/
@[irreducible] def Hi {α : Type} (o : Out α) (Q : α → Sto → Prop) (X : Nat → D → Sto → Prop) : Prop := match o with
  | .ok a s => Q a s
  | .exc c v s => X c v s
  | .no => False
section
theorem Hi.okD {α : Type} {a : α} {s : Sto} {Q : α → Sto → Prop} {X : Nat → D → Sto → Prop} (h : Hi (.ok a s) Q X) : Q a s := by
  unfold Hi at h
  exact h
theorem Hi.okI {α : Type} {a : α} {s : Sto} {Q : α → Sto → Prop} {X : Nat → D → Sto → Prop} (h : Q a s) : Hi (.ok a s) Q X := by
  unfold Hi
  exact h
theorem Hi.excD {α : Type} {c : Nat} {v : D} {s : Sto} {Q : α → Sto → Prop} {X : Nat → D → Sto → Prop} (h : Hi (.exc c v s) Q X) : X c v s := by
  unfold Hi at h
  exact h
theorem Hi.excI {α : Type} {c : Nat} {v : D} {s : Sto} {Q : α → Sto → Prop} {X : Nat → D → Sto → Prop} (h : X c v s) : Hi (.exc c v s) Q X := by
  unfold Hi
  exact h
theorem Hi.noD {α : Type} {Q : α → Sto → Prop} {X : Nat → D → Sto → Prop} (h : Hi .no Q X) : False := by
  unfold Hi at h
  exact h
variable {α β : Type} {X : Nat → D → Sto → Prop} {Q : β → Sto → Prop}
theorem Hi.bind {o : Out α} {f : α → M β} (h : Hi o (fun a s => Hi (f a s) Q X) X) : Hi (o.bind f) Q X := by
  cases o with
  | ok a s => exact h.okD
  | exc c v s => exact Hi.excI h.excD
  | no => exact h.noD.elim
theorem Hi.imp {o : Out β} {Q' : β → Sto → Prop} {X' : Nat → D → Sto → Prop} (h : Hi o Q X) (hq : ∀ a s, Q a s → Q' a s) (hx : ∀ c v s, X c v s → X' c v s) : Hi o Q' X' := by
  cases o with
  | ok a s => exact Hi.okI (hq _ _ h.okD)
  | exc c v s => exact Hi.excI (hx _ _ _ h.excD)
  | no => exact h.noD.elim
theorem Hi.eq {o : Out β} {a : β} {s : Sto} (h : Hi o (fun b t => b = a ∧ t = s) (fun _ _ _ => False)) : o = .ok a s := by
  cases o with
  | ok b t => obtain ⟨rfl, rfl⟩ := h.okD; rfl
  | exc c v s => exact False.elim h.excD
  | no => exact False.elim h.noD
theorem Hi.of_eq {o : Out β} {a : β} {s : Sto} (h : o = .ok a s) (q : Q a s) : Hi o Q X := by rw [h]; exact Hi.okI q
/-- a loop over items that are known: J before the i-th turn -/
theorem hi_loop {at_ : Sto → Nat → Option (Option D)} {body : D → Sl → M Fl} {Q : Fl → Sto → Prop} (xs : List D) (J : Nat → Sl → Sto → Prop) (hat : ∀ i env st, i ≤ xs.length → J i env st → at_ st i = some xs[i]?)
    (step : ∀ i x env st, xs[i]? = some x → J i env st → Hi (body x env st) (fun fl st' => match fl with
      | .nx e => J (i + 1) e st'
      | .ct e => J (i + 1) e st'
      | .bk e => Q (.nx e) st'
      | .rt d => Q (.rt d) st') X) (fin : ∀ env st, J xs.length env st → Q (.nx env) st) : ∀ (n i : Nat) (env : Sl) (st : Sto), i ≤ xs.length → xs.length < n + i → J i env st → Hi (loopN at_ body n i env st) Q X
  | 0, i, env, st, h1, h2, _ => by omega
  | n + 1, i, env, st, h1, h2, hj => by
    unfold loopN
    rw [hat i env st h1 hj]
    cases e : xs[i]? with
    | none =>
      have : i = xs.length := by
        have := List.getElem?_eq_none_iff.mp e
        omega
      subst this
      exact Hi.okI (fin env st hj)
    | some x =>
      have hi : i < xs.length := by
        rcases Nat.lt_or_ge i xs.length with z | z
        · exact z
        · rw [List.getElem?_eq_none z] at e; cases e
      refine Hi.bind ((step i x env st e hj).imp (fun fl st' h => ?_) fun _ _ _ h => h)
      cases fl with
      | nx e' => exact hi_loop xs J hat step fin n (i + 1) e' st' hi (by omega) h
      | ct e' => exact hi_loop xs J hat step fin n (i + 1) e' st' hi (by omega) h
      | bk e' => exact Hi.okI h
      | rt d => exact Hi.okI h
end
/-- the items of a range -/
def rngL (lo : Int) (n : Nat) : List D := (List.range n).map fun (i : Nat) => D.int (lo + i)
theorem rngL_len {lo : Int} {n : Nat} : (rngL lo n).length = n := by simp [rngL]
theorem rngL_get {lo : Int} {n i : Nat} : (rngL lo n)[i]? = if i < n then some (.int (lo + i)) else none := by
  unfold rngL
  rw [List.getElem?_map]
  by_cases h : i < n
  · rw [List.getElem?_range h, if_pos h]; rfl
  · rw [List.getElem?_eq_none (by simpa using h), if_neg h]; rfl
theorem rng_at {lo : Int} {n i : Nat} {st : Sto} : (Itv.rng lo n).at st i = some ((rngL lo n)[i]?) := by
  rw [rngL_get]; rfl
theorem frz_at {xs : List D} {i : Nat} {st : Sto} : (Itv.sq (.frz xs)).at st i = some xs[i]? := rfl
theorem tup_at {xs : List D} {i : Nat} {st : Sto} : (Itv.sq (.tup xs)).at st i = some xs[i]? := rfl
theorem ref_at {xs : List D} {k i : Nat} {st : Sto} (h : st[k]? = some (.lst xs)) : (Itv.sq (.ref k)).at st i = some xs[i]? := by
  show (match st[k]? with | some (.lst xs) => some xs[i]? | _ => none) = _
  rw [h]
/-- a comprehension whose turns change nothing -/
theorem comp_pure {at_ : Sto → Nat → Option (Option D)} {turn : D → M (Option D)} {st : Sto} (xs : List D) (f : D → Option D) (hat : ∀ i, i ≤ xs.length → at_ st i = some xs[i]?) (ht : ∀ x ∈ xs, turn x st = .ok (f x) st) : ∀ (n i : Nat) (acc : List D), i ≤ xs.length → xs.length < n + i → acc.length + (xs.length - i) ≤ lim →
    compN at_ turn n i acc st = .ok (acc ++ (xs.drop i).filterMap f) st
  | 0, i, acc, h1, h2, _ => by omega
  | n + 1, i, acc, h1, h2, h3 => by
    unfold compN
    rw [hat i h1]
    cases e : xs[i]? with
    | none =>
      have : i = xs.length := by
        have := List.getElem?_eq_none_iff.mp e
        omega
      subst this
      simp
    | some x =>
      have hi : i < xs.length := by
        rcases Nat.lt_or_ge i xs.length with z | z
        · exact z
        · rw [List.getElem?_eq_none z] at e; cases e
      have ed : xs.drop i = x :: xs.drop (i + 1) := by
        rw [List.drop_eq_getElem_cons hi]
        rw [List.getElem?_eq_getElem hi] at e
        rw [Option.some.inj e]
      simp only [ht x (List.mem_of_getElem? e), Out.bind, ed, List.filterMap_cons]
      cases ef : f x with
      | none =>
        simp only
        rw [comp_pure xs f hat ht n (i + 1) acc hi (by omega) (by omega)]
      | some y =>
        simp only
        rw [if_pos (by omega), comp_pure xs f hat ht n (i + 1) (acc ++ [y]) hi (by omega) (by simp; omega)]
        simp
/-- the store so far, and more -/
def Pre (st st' : Sto) : Prop := ∃ g, st' = st ++ g
theorem Pre.refl {st : Sto} : Pre st st := ⟨[], by simp⟩
theorem Pre.app {st st' g : Sto} (h : Pre st st') : Pre st (st' ++ g) := by
  obtain ⟨x, rfl⟩ := h
  exact ⟨x ++ g, by simp⟩
theorem Pre.le {st st' : Sto} (h : Pre st st') : st.length ≤ st'.length := by
  obtain ⟨x, rfl⟩ := h
  simp
theorem Pre.set {st st' : Sto} {l : Nat} {o : O} (h : Pre st st') (hl : st.length ≤ l) : Pre st (st'.set l o) := by
  obtain ⟨x, rfl⟩ := h
  rw [List.set_append_right _ _ hl]
  exact ⟨_, rfl⟩
theorem Pre.get {st st' : Sto} {b : Nat} {o : O} (h : Pre st st') (e : st[b]? = some o) : st'[b]? = some o := by
  obtain ⟨x, rfl⟩ := h
  rw [List.getElem?_append_left (by rcases Nat.lt_or_ge b st.length with z | z; exact z; rw [List.getElem?_eq_none z] at e; cases e)]
  exact e
theorem get_lt {st : Sto} {b : Nat} {o : O} (e : st[b]? = some o) : b < st.length := by
  rcases Nat.lt_or_ge b st.length with z | z
  · exact z
  · rw [List.getElem?_eq_none z] at e; cases e
theorem get_app {st g : Sto} {b : Nat} {o : O} (e : st[b]? = some o) : (st ++ g)[b]? = some o := Pre.get ⟨g, rfl⟩ e
theorem get_new {st : Sto} {o : O} : (st ++ [o])[st.length]? = some o := by simp
theorem get_set {st : Sto} {l : Nat} {o o' : O} (e : st[l]? = some o) : (st.set l o')[l]? = some o' := by
  simp [get_lt e]
theorem get_set_ne {st : Sto} {l b : Nat} {o o' : O} (e : st[b]? = some o) (h : l ≠ b) : (st.set l o')[b]? = some o := by
  rw [List.getElem?_set_ne h]; exact e
theorem tidy_pre {v : D} {st st' : Sto} (hv : v.flat = true) (h : Pre st st') : tidy st (.ok v st') = .ok v st := by
  obtain ⟨g, rfl⟩ := h
  have h : sameBut st.length st (st ++ g) = true := by
    unfold sameBut
    simp only [List.length_append, Nat.le_add_right, decide_true, Bool.true_and, List.all_eq_true, List.mem_range]
    intro i hi
    rw [List.getElem?_append_left hi]
    simp
  simp [tidy, hv, h]

/-! ### lists of ints -/
theorem place_nat {n i : Nat} (h : i < n) : place n (i : Int) = some i := by
  unfold place
  rw [if_pos (by omega), if_pos (by omega)]
  simp
theorem idx_ints {st : Sto} {k i : Nat} {cs : List Int} (h : st[k]? = some (.lst (cs.map D.int))) (hi : i < cs.length) : idxD (.ref k) (.int i) st = .ok (.int (cs.getD i 0)) st := by
  unfold idxD
  simp only [h, List.length_map, place_nat hi, Option.bind_some, List.getElem?_map, List.getElem?_eq_getElem hi, Option.map_some, List.getD_eq_getElem?_getD, Option.getD_some]
theorem ints_map : ∀ cs : List Int, ints? (cs.map D.int) = some cs
  | [] => rfl
  | c :: cs => by
    have := ints_map cs
    unfold ints? at this ⊢
    simp only [List.map_cons, seqOpt, isInt, this]
theorem sum_ints {st : Sto} {k : Nat} {cs : List Int} (h : st[k]? = some (.lst (cs.map D.int))) : biD .sum [.ref k] st = .ok (.int cs.sum) st := by
  show (match (isSeq st (.ref k)).bind ints? with | some is => (Out.ok (.int is.sum) st : Out D) | none => .no) = _
  simp only [isSeq, h, Option.bind_some, ints_map]
theorem small_nat {n : Nat} (h : n ≤ 16777216) : small (n : Int) = true := by
  unfold small
  simp only [Bool.and_eq_true, decide_eq_true_eq]
  omega
end Mi

set_option Elab.async false
set_option linter.all false
set_option maxRecDepth 100000
set_option maxHeartbeats 1000000
/-! Mi, part Y: rules for statements and calls of the pure language. -/
namespace Mi

theorem tidy_app {v : D} {st g : Sto} (hv : v.flat = true) : tidy st (.ok v (st ++ g)) = .ok v st := tidy_pre hv ⟨g, rfl⟩
theorem tidy_same {v : D} {st : Sto} (hv : v.flat = true) : tidy st (.ok v st) = .ok v st := tidy_pre hv Pre.refl
theorem tidy_exc {c : Nat} {v : D} {st st' : Sto} (hv : v.flat = true) (h : Pre st st') : tidy st (.exc c v st') = .exc c v st := by
  obtain ⟨g, rfl⟩ := h
  have h : sameBut st.length st (st ++ g) = true := by
    unfold sameBut
    simp only [List.length_append, Nat.le_add_right, decide_true, Bool.true_and, List.all_eq_true, List.mem_range]
    intro i hi
    rw [List.getElem?_append_left hi]
    simp
  simp [tidy, hv, h]
/-- one cell was written, to flat data -/
theorem tidy_set {v : D} {st st' : Sto} {p : Nat} {o : O} (hv : v.flat = true) (ho : o.flat = true) (h : Pre (st.set p o) st') : tidy st (.ok v st') = .ok v (st.set p o) := by
  obtain ⟨g, rfl⟩ := h
  have h : sameBut st.length st (st.set p o ++ g) = true := by
    unfold sameBut
    simp only [List.length_append, List.length_set, Nat.le_add_right, decide_true, Bool.true_and, List.all_eq_true, List.mem_range]
    intro i hi
    rw [List.getElem?_append_left (by simpa using hi)]
    rcases Nat.decEq p i with e | e
    · rw [List.getElem?_set_ne e]; simp
    · subst e
      simp [hi, ho]
  simp only [tidy, hv, h, Bool.and_self, if_true]
  congr 1
  rw [List.take_append_of_le_length (by simp)]
  exact List.take_of_length_le (by simp)

section
variable {Φ : Nat → List D → M D} {X : Nat → D → Sto → Prop}
theorem hi_nil {env : Sl} {st : Sto} {Q : Fl → Sto → Prop} (h : Q (.nx env) st) : Hi (denSs Φ [] env st) Q X := by
  with_unfolding_all
    unfold denSs
    exact h
theorem hi_set {i : Nat} {e : E} {ss : List S} {env : Sl} {st : Sto} {Q : Fl → Sto → Prop} (hi : Nat.blt i env.length = true) (h : Hi (den Φ e env st) (fun v st' => Hi (denSs Φ ss (env.set i (some v)) st') Q X) X) : Hi (denSs Φ (.set (.name i) e :: ss) env st) Q X := by
  with_unfolding_all
    simp only [denSs, denS, M.bind, Out.bind, Tg.put]
    cases hd : den Φ e env st with
    | ok v st' =>
      rw [hd] at h
      have hi : i < env.length := Nat.blt_eq.mp hi
      simp only [Out.bind, hi, if_true, M.pure]
      exact h
    | exc c v st' => rw [hd] at h; exact h
    | no => rw [hd] at h; exact h
/-- to a pattern -/
def PutG (g : Tg) (v : D) (env : Sl) (P : Sl → Prop) : Prop := ∃ env', g.put v env = some env' ∧ P env'
theorem PutG.mk {g : Tg} {v : D} {env env' : Sl} {P : Sl → Prop} (h : g.put v env = some env') (p : P env') : PutG g v env P := ⟨env', h, p⟩
def Fits (xs : List D) (P : Prop) : Prop := xs.length ≤ lim ∧ P
theorem Fits.mk {xs : List D} {P : Prop} (h : Nat.ble xs.length 16777216 = true) (p : P) : Fits xs P := ⟨Nat.le_of_ble_eq_true h, p⟩
theorem hi_setG {g : Tg} {e : E} {ss : List S} {env : Sl} {st : Sto} {Q : Fl → Sto → Prop} (h : Hi (den Φ e env st) (fun v st' => PutG g v env fun env' => Hi (denSs Φ ss env' st') Q X) X) : Hi (denSs Φ (.set g e :: ss) env st) Q X := by
  with_unfolding_all
    simp only [denSs, denS, M.bind, Out.bind]
    cases hd : den Φ e env st with
    | ok v st' =>
      rw [hd] at h
      replace h := h.okD
      obtain ⟨env', e1, h⟩ := h
      simp only [Out.bind, e1, M.pure]
      exact h
    | exc c v st' => rw [hd] at h; exact h
    | no => rw [hd] at h; exact h
theorem hi_expr {e : E} {ss : List S} {env : Sl} {st : Sto} {Q : Fl → Sto → Prop} (h : Hi (den Φ e env st) (fun _ st' => Hi (denSs Φ ss env st') Q X) X) : Hi (denSs Φ (.expr e :: ss) env st) Q X := by
  with_unfolding_all
    simp only [denSs, denS, M.bind, Out.bind]
    cases hd : den Φ e env st with
    | ok v st' => rw [hd] at h; exact h
    | exc c v st' => rw [hd] at h; exact h
    | no => rw [hd] at h; exact h
theorem hi_ret {e : E} {ss : List S} {env : Sl} {st : Sto} {Q : Fl → Sto → Prop} (h : Hi (den Φ e env st) (fun v st' => Q (.rt v) st') X) : Hi (denSs Φ (.ret e :: ss) env st) Q X := by
  with_unfolding_all
    simp only [denSs, denS, M.bind, Out.bind]
    cases hd : den Φ e env st with
    | ok v st' => rw [hd] at h; exact h
    | exc c v st' => rw [hd] at h; exact h
    | no => rw [hd] at h; exact h
theorem hi_raise {c : Nat} {e : E} {ss : List S} {env : Sl} {st : Sto} {Q : Fl → Sto → Prop} (h : Hi (den Φ e env st) (fun v st' => X c v st') X) : Hi (denSs Φ (.raise c e :: ss) env st) Q X := by
  with_unfolding_all
    simp only [denSs, denS, M.bind, Out.bind]
    cases hd : den Φ e env st with
    | ok v st' => rw [hd] at h; exact h
    | exc c v st' => rw [hd] at h; exact h
    | no => rw [hd] at h; exact h
theorem hi_put {a i e : E} {ss : List S} {env : Sl} {st : Sto} {Q : Fl → Sto → Prop} (h : Hi (den Φ e env st) (fun v st1 => Hi (den Φ a env st1) (fun x st2 => Hi (den Φ i env st2) (fun y st3 => ∃ st4, putD x y v st3 = some st4 ∧ Hi (denSs Φ ss env st4) Q X) X) X) X) : Hi (denSs Φ (.put a i e :: ss) env st) Q X := by
  with_unfolding_all
    simp only [denSs, denS, M.bind, Out.bind]
    cases hd : den Φ e env st with
    | ok v st1 =>
      rw [hd] at h
      simp only [Hi, Out.bind] at h ⊢
      cases hd2 : den Φ a env st1 with
      | ok x st2 =>
        rw [hd2] at h
        simp only [Hi, Out.bind] at h ⊢
        cases hd3 : den Φ i env st2 with
        | ok y st3 =>
          rw [hd3] at h
          replace h := h.okD
          obtain ⟨st4, e4, h⟩ := h
          simp only [Hi, Out.bind, e4] at h ⊢
          exact h
        | exc c v st' => rw [hd3] at h; exact h
        | no => rw [hd3] at h; exact h
      | exc c v st' => rw [hd2] at h; exact h
      | no => rw [hd2] at h; exact h
    | exc c v st' => rw [hd] at h; exact h
    | no => rw [hd] at h; exact h
def IsI (x : D) (f : Int → Prop) : Prop := ∃ i, x = .int i ∧ f i
theorem IsI.mk {i : Int} {f : Int → Prop} (h : f i) : IsI (.int i) f := ⟨i, rfl, h⟩
theorem nt : (!true) = false := rfl
theorem nf : (!false) = true := rfl
theorem ct {α : Type} {a b : α} : cond true a b = a := rfl
theorem cf {α : Type} {a b : α} : cond false a b = b := rfl
/-- a truth value, and what follows of it -/
def Br (x : D) (f : Bool → Prop) : Prop := ∃ k, x = .bl k ∧ f k
theorem Br.mk {k : Bool} {f : Bool → Prop} (h : f k) : Br (.bl k) f := ⟨k, rfl, h⟩
/-- what comes behind a statement that ends so -/
abbrev goOn (Φ : Nat → List D → M D) (ss : List S) (Q : Fl → Sto → Prop) (X : Nat → D → Sto → Prop) (fl : Fl) (st : Sto) : Prop := match fl with
  | .nx env' => Hi (denSs Φ ss env' st) Q X
  | .rt d => Q (.rt d) st
  | .bk env' => Q (.bk env') st
  | .ct env' => Q (.ct env') st
theorem hi_cons {s : S} {ss : List S} {env : Sl} {st : Sto} {Q : Fl → Sto → Prop} (h : Hi (denS Φ s env st) (goOn Φ ss Q X) X) : Hi (denSs Φ (s :: ss) env st) Q X := by
  with_unfolding_all
    simp only [denSs, M.bind, Out.bind]
    cases hd : denS Φ s env st with
    | ok fl st' => rw [hd] at h; cases fl <;> exact h
    | exc c v st' => rw [hd] at h; exact h
    | no => rw [hd] at h; exact h
theorem hi_ifs {t : E} {a b ss : List S} {env : Sl} {st : Sto} {Q : Fl → Sto → Prop} (h : Hi (den Φ t env st) (fun v st' => Br v fun k => Hi (denSs Φ (cond k a b) env st') (goOn Φ ss Q X) X) X) : Hi (denSs Φ (.ifs t a b :: ss) env st) Q X := by
  with_unfolding_all
    refine hi_cons ?_
    simp only [denS, M.bind, Out.bind]
    cases hd : den Φ t env st with
    | ok v st' =>
      rw [hd] at h
      replace h := h.okD
      obtain ⟨k, rfl, h⟩ := h
      cases k <;> exact h
    | exc c v st' => rw [hd] at h; exact h
    | no => rw [hd] at h; exact h
/-- a loop over items that are known -/
theorem hi_for {g : Tg} {it : I} {b ss : List S} {env : Sl} {st st1 : Sto} {t : Itv} {Q : Fl → Sto → Prop} (xs : List D) (J : Nat → Sl → Sto → Prop) (hI : Hi (denI Φ it env st) (fun t' s => t' = t ∧ s = st1) (fun _ _ _ => False)) (hat : ∀ i env st, i ≤ xs.length → J i env st → t.at st i = some xs[i]?) (hlen : xs.length < 1000000000)
    (step : ∀ i x env st, xs[i]? = some x → J i env st → ∃ env', g.put x env = some env' ∧ Hi (denSs Φ b env' st) (fun fl st' => match fl with
      | .nx e => J (i + 1) e st'
      | .ct e => J (i + 1) e st'
      | .bk e => Hi (denSs Φ ss e st') Q X
      | .rt d => Q (.rt d) st') X) (h0 : J 0 env st1) (fin : ∀ env st, J xs.length env st → Hi (denSs Φ ss env st) Q X) : Hi (denSs Φ (.fors g it b :: ss) env st) Q X := by
  with_unfolding_all
    refine hi_cons ?_
    have hI := hI.eq
    simp only [denS, M.bind, hI, Out.bind]
    generalize ht : turns = T
    have hT : xs.length < T := by rw [← ht]; exact hlen
    refine hi_loop xs J hat ?_ ?_ T 0 env st1 (Nat.zero_le _) (by omega) h0
    · intro i x env st hx hj
      obtain ⟨env', e1, h⟩ := step i x env st hx hj
      simp only [e1]
      refine h.imp (fun fl st' h => ?_) fun _ _ _ h => h
      cases fl <;> exact h
    · exact fin
theorem hi_while {t : E} {b ss : List S} {env : Sl} {st : Sto} {Q : Fl → Sto → Prop} (J : Nat → Sl → Sto → Prop) (N : Nat) (hN : N < 1000000000)
    (step : ∀ n env st, J n env st → Hi (den Φ t env st) (fun v st' => ∃ k, v = .bl k ∧ match k with
      | true => ∃ m, n = m + 1 ∧ Hi (denSs Φ b env st') (fun fl st' => match fl with
        | .nx e => J m e st'
        | .ct e => J m e st'
        | .bk e => Hi (denSs Φ ss e st') Q X
        | .rt d => Q (.rt d) st') X
      | false => Hi (denSs Φ ss env st') Q X) X) (h0 : J N env st) : Hi (denSs Φ (.whiles t b :: ss) env st) Q X := by
  with_unfolding_all
    refine hi_cons ?_
    simp only [denS]
    generalize ht : turns = T
    have hT : N < T := by rw [← ht]; exact hN
    clear hN ht
    have main : ∀ (T n : Nat) (env : Sl) (st : Sto), n < T → J n env st → Hi (whileN (fun env' => M.bind (den Φ t env') fun x => match x with
      | .bl c => M.pure c
      | _ => M.no) (fun env' => denSs Φ b env') T env st) (goOn Φ ss Q X) X := by
      intro T
      induction T with
      | zero => intro n env st h; omega
      | succ T ih =>
        intro n env st hn hj
        have h := step n env st hj
        unfold whileN
        simp only [M.bind, Out.bind]
        cases hd : den Φ t env st with
        | ok v st' =>
          rw [hd] at h
          replace h := h.okD
          obtain ⟨k, rfl, h⟩ := h
          simp only [M.pure]
          cases k with
          | false => exact h
          | true =>
            obtain ⟨m, rfl, h⟩ := h
            simp only [if_true, M.bind, Out.bind]
            cases hb : denSs Φ b env st' with
            | ok fl st2 =>
              rw [hb] at h
              cases fl with
              | nx e => exact ih m e st2 (by omega) h
              | ct e => exact ih m e st2 (by omega) h
              | bk e => exact h
              | rt d => exact h
            | exc c v st2 => rw [hb] at h; exact h
            | no => rw [hb] at h; exact h
        | exc c v st' => rw [hd] at h; exact h
        | no => rw [hd] at h; exact h
    exact main T N env st hT h0
/-- a comprehension whose turns change nothing -/
theorem hi_comp {g : Tg} {vs : List Nat} {it : I} {ts : List E} {e : E} {env : Sl} {st st1 : Sto} {t : Itv} {Q : D → Sto → Prop} (xs : List D) (f : D → Option D) (hI : Hi (denI Φ it env st) (fun t' s => t' = t ∧ s = st1) (fun _ _ _ => False)) (hat : ∀ i, i ≤ xs.length → t.at st1 i = some xs[i]?) (hlen : xs.length ≤ 16777216)
    (ht : ∀ x ∈ xs, ∃ env', g.put x (wipe env vs) = some env' ∧ (∃ b, denT Φ ts env' st1 = .ok b st1 ∧ match b with | true => ∃ y, f x = some y ∧ den Φ e env' st1 = .ok y st1 | false => f x = none)) (h : Q (.ref st1.length) (st1 ++ [.lst (xs.filterMap f)])) : Hi (den Φ (.comp g vs it ts e) env st) Q X := by
  with_unfolding_all
    have hI := hI.eq
    simp only [den, M.bind, hI, Out.bind]
    generalize hT : turns = T
    have hT' : xs.length < T := by rw [← hT]; exact Nat.lt_of_le_of_lt hlen (by decide)
    have lm : lim = 16777216 := rfl
    rw [calm, comp_pure xs f hat ?_ T 0 [] (Nat.zero_le _) (by omega) (by simp; omega)]
    · have : (xs.filterMap f).length ≤ lim := Nat.le_trans (List.length_filterMap_le _ _) (by omega)
      simp only [List.nil_append, List.drop_zero, newL, this, if_true, alloc]
      exact h
    · intro x hx
      obtain ⟨env', e1, b, e2, h⟩ := ht x hx
      simp only [e1, e2, M.bind, Out.bind]
      cases b with
      | false =>
        have h : f x = none := h
        simp only [Bool.false_eq_true, if_false, h, M.pure]
      | true =>
        obtain ⟨y, e3, e4⟩ := h
        simp only [if_true, e4, e3, M.bind, Out.bind, M.pure]
end
theorem Hi.eqc {α : Type} {o : Out α} {a : α} {s : Sto} {Q : α → Sto → Prop} {X : Nat → D → Sto → Prop} (h : o = .ok a s) (q : Q a s) : Hi o Q X := by rw [h]; exact Hi.okI q
/-- it tells just this -/
theorem Hi.cutV {α : Type} {o : Out α} {Q : α → Sto → Prop} {X : Nat → D → Sto → Prop} (v : α) (s : Sto) (h : Hi o (fun v' s' => v' = v ∧ s' = s) (fun _ _ _ => False)) (k : Q v s) : Hi o Q X := by
  with_unfolding_all
    rw [h.eq]
    exact k
/-- a call -/
theorem callN_eq {FT : List Fn} {d k : Nat} {args : List D} {f : Fn} {st : Sto} (hf : FT[k]? = some f) (h1 : args.length = f.np) (h2 : f.np ≤ f.nl) : callN FT (d + 1) k args st = tidy st (leave (denSs (callN FT d) f.body (args.map some ++ List.replicate (f.nl - f.np) none) st)) := by
  unfold callN
  simp only [hf, h1, h2, and_self, if_true]
abbrev retD (Q : D → Sto → Prop) (fl : Fl) (st : Sto) : Prop := match fl with
  | .rt v => Q v st
  | .nx _ => Q .non st
  | _ => False
theorem hi_leave {o : Out Fl} {Q : D → Sto → Prop} {X : Nat → D → Sto → Prop} (h : Hi o (retD Q) X) : Hi (leave o) Q X := by
  with_unfolding_all
    cases o with
    | ok fl st => cases fl <;> first | exact h | exact False.elim h
    | exc c v st => exact h
    | no => exact h
/-- a call that changes nothing and returns flat data -/
theorem call_pure {FT : List Fn} {d k : Nat} {args : List D} {f : Fn} {st : Sto} {v : D} (env : Sl) (hf : FT[k]? = some f) (h1 : args.length = f.np) (h2 : f.np ≤ f.nl) (hv : v.flat = true) (he : env = args.map some ++ List.replicate (f.nl - f.np) none)
    (h : Hi (denSs (callN FT d) f.body env st) (retD fun u st' => u = v ∧ Pre st st') (fun _ _ _ => False)) : callN FT (d + 1) k args st = .ok v st := by
  with_unfolding_all
    subst he
    rw [callN_eq hf h1 h2]
    have h2 := hi_leave h
    clear h
    cases e : leave (denSs (callN FT d) f.body (args.map some ++ List.replicate (f.nl - f.np) none) st) with
    | ok u st' =>
      rw [e] at h2
      replace h2 := h2.okD
      obtain ⟨rfl, h2⟩ := h2
      exact tidy_pre hv h2
    | exc c v st' => rw [e] at h2; exact False.elim h2
    | no => rw [e] at h2; exact False.elim h2
theorem call_exc {FT : List Fn} {d k : Nat} {args : List D} {f : Fn} {st : Sto} {v : D} {c : Nat} (env : Sl) (hf : FT[k]? = some f) (h1 : args.length = f.np) (h2 : f.np ≤ f.nl) (hv : v.flat = true) (he : env = args.map some ++ List.replicate (f.nl - f.np) none)
    (h : Hi (denSs (callN FT d) f.body env st) (fun _ _ => False) (fun c' u st' => c' = c ∧ u = v ∧ Pre st st')) : callN FT (d + 1) k args st = .exc c v st := by
  with_unfolding_all
    subst he
    rw [callN_eq hf h1 h2]
    cases e : denSs (callN FT d) f.body (args.map some ++ List.replicate (f.nl - f.np) none) st with
    | ok u st' => rw [e] at h; exact False.elim h
    | exc c' u st' =>
      rw [e] at h
      replace h := h.excD
      obtain ⟨rfl, rfl, h⟩ := h
      exact tidy_exc hv h
    | no => rw [e] at h; exact False.elim h
/-- in general: the garbage is dropped where the result is flat -/
theorem hi_call {FT : List Fn} {d k : Nat} {args : List D} {f : Fn} {st : Sto} {Q : D → Sto → Prop} {X : Nat → D → Sto → Prop} (env : Sl) (hf : FT[k]? = some f) (h1 : args.length = f.np) (h2 : f.np ≤ f.nl) (he : env = args.map some ++ List.replicate (f.nl - f.np) none)
    (h : Hi (denSs (callN FT d) f.body env st) (retD fun u st' => Hi (tidy st (.ok u st')) Q X) (fun c u st' => Hi (tidy st (.exc c u st')) Q X)) : Hi (callN FT (d + 1) k args st) Q X := by
  with_unfolding_all
    subst he
    rw [callN_eq hf h1 h2]
    cases e : denSs (callN FT d) f.body (args.map some ++ List.replicate (f.nl - f.np) none) st with
    | ok fl st' =>
      rw [e] at h
      cases fl <;> first | exact h | exact False.elim h
    | exc c u st' =>
      rw [e] at h
      exact h
    | no => rw [e] at h; exact False.elim h

/-! ### expressions, step by step -/
section
variable {Φ : Nat → List D → M D} {X : Nat → D → Sto → Prop} {Q : D → Sto → Prop} {env : Sl} {st : Sto}
theorem hi_cst {d : D} (h : Q d st) : Hi (den Φ (.cst d) env st) Q X := by with_unfolding_all exact h
theorem hi_var {i : Nat} {d : D} (e : env[i]? = some (some d)) (h : Q d st) : Hi (den Φ (.var i) env st) Q X := by
  with_unfolding_all
    simp only [den, e]
    exact h
theorem hi_dnil {Q : List D → Sto → Prop} (h : Q [] st) : Hi (dens Φ [] env st) Q X := by with_unfolding_all exact h
theorem hi_dcons {e : E} {es : List E} {Q : List D → Sto → Prop} (h : Hi (den Φ e env st) (fun x st1 => Hi (dens Φ es env st1) (fun xs st2 => Q (x :: xs) st2) X) X) : Hi (dens Φ (e :: es) env st) Q X := by
  with_unfolding_all
    simp only [dens, M.bind]
    refine Hi.bind (h.imp (fun x st1 h => ?_) fun _ _ _ h => h)
    exact Hi.bind (h.imp (fun x st1 h => h) fun _ _ _ h => h)
theorem hi_tup {es : List E} (h : Hi (dens Φ es env st) (fun xs st1 => Fits xs (Q (.tup xs) st1)) X) : Hi (den Φ (.tup es) env st) Q X := by
  with_unfolding_all
    simp only [den, M.bind]
    refine Hi.bind (h.imp (fun x st1 h => ?_) fun _ _ _ h => h)
    simp only [newT, h.1, if_true]
    exact h.2
theorem hi_lst {es : List E} (h : Hi (dens Φ es env st) (fun xs st1 => Fits xs (Q (.ref st1.length) (st1 ++ [.lst xs]))) X) : Hi (den Φ (.lst es) env st) Q X := by
  with_unfolding_all
    simp only [den, M.bind]
    refine Hi.bind (h.imp (fun x st1 h => ?_) fun _ _ _ h => h)
    simp only [newL, h.1, if_true]
    exact h.2
theorem hi_dic {es : List E} (h : Hi (dens Φ es env st) (fun xs st1 => ∃ kvs, dicOf xs [] = some kvs ∧ xs.length ≤ 30 ∧ Q (.ref st1.length) (st1 ++ [.dic kvs kvs.length])) X) : Hi (den Φ (.dic es) env st) Q X := by
  with_unfolding_all
    simp only [den, M.bind]
    refine Hi.bind (h.imp (fun x st1 h => ?_) fun _ _ _ h => h)
    obtain ⟨kvs, e, hl, h⟩ := h
    simp only [e, hl, if_true]
    exact h
theorem hi_bin {o : Bop} {a b : E} (h : Hi (den Φ a env st) (fun x st1 => Hi (den Φ b env st1) (fun y st2 => Hi (binD o x y st2) Q X) X) X) : Hi (den Φ (.bin o a b) env st) Q X := by
  with_unfolding_all
    simp only [den, M.bind]
    refine Hi.bind (h.imp (fun x st1 h => ?_) fun _ _ _ h => h)
    exact Hi.bind h
theorem hi_cmp {o : Cop} {a b : E} (h : Hi (den Φ a env st) (fun x st1 => Hi (den Φ b env st1) (fun y st2 => Hi (cmpD o x y st2) Q X) X) X) : Hi (den Φ (.cmp o a b) env st) Q X := by
  with_unfolding_all
    simp only [den, M.bind]
    refine Hi.bind (h.imp (fun x st1 h => ?_) fun _ _ _ h => h)
    exact Hi.bind h
theorem hi_neg {a : E} (h : Hi (den Φ a env st) (fun x st1 => IsI x fun i => Q (.int (-i)) st1) X) : Hi (den Φ (.neg a) env st) Q X := by
  with_unfolding_all
    simp only [den, M.bind]
    refine Hi.bind (h.imp (fun x st1 h => ?_) fun _ _ _ h => h)
    obtain ⟨i, rfl, h⟩ := h
    exact h
theorem hi_not {a : E} (h : Hi (den Φ a env st) (fun x st1 => Br x fun k => Q (.bl (!k)) st1) X) : Hi (den Φ (.not a) env st) Q X := by
  with_unfolding_all
    simp only [den, M.bind]
    refine Hi.bind (h.imp (fun x st1 h => ?_) fun _ _ _ h => h)
    obtain ⟨i, rfl, h⟩ := h
    exact h
theorem hi_and {a b : E} (h : Hi (den Φ a env st) (fun x st1 => Br x fun k => (k = true → Hi (den Φ b env st1) (fun y st2 => Br y fun c => Q (.bl c) st2) X) ∧ (k = false → Q (.bl false) st1)) X) : Hi (den Φ (.and a b) env st) Q X := by
  with_unfolding_all
    simp only [den, M.bind]
    refine Hi.bind (h.imp (fun x st1 h => ?_) fun _ _ _ h => h)
    obtain ⟨i, rfl, h1, h2⟩ := h
    cases i with
    | false => exact h2 rfl
    | true =>
      refine Hi.bind ((h1 rfl).imp (fun x st1 h => ?_) fun _ _ _ h => h)
      obtain ⟨i, rfl, h⟩ := h
      exact h
theorem hi_or {a b : E} (h : Hi (den Φ a env st) (fun x st1 => Br x fun k => (k = false → Hi (den Φ b env st1) (fun y st2 => Br y fun c => Q (.bl c) st2) X) ∧ (k = true → Q (.bl true) st1)) X) : Hi (den Φ (.or a b) env st) Q X := by
  with_unfolding_all
    simp only [den, M.bind]
    refine Hi.bind (h.imp (fun x st1 h => ?_) fun _ _ _ h => h)
    obtain ⟨i, rfl, h1, h2⟩ := h
    cases i with
    | true => exact h2 rfl
    | false =>
      refine Hi.bind ((h1 rfl).imp (fun x st1 h => ?_) fun _ _ _ h => h)
      obtain ⟨i, rfl, h⟩ := h
      exact h
theorem hi_ite {t a b : E} (h : Hi (den Φ t env st) (fun x st1 => Br x fun k => Hi (den Φ (cond k a b) env st1) Q X) X) : Hi (den Φ (.ite t a b) env st) Q X := by
  with_unfolding_all
    simp only [den, M.bind]
    refine Hi.bind (h.imp (fun x st1 h => ?_) fun _ _ _ h => h)
    obtain ⟨i, rfl, h⟩ := h
    cases i <;> exact h
theorem hi_chain {o o' : Cop} {a b c : E} (h : Hi (den Φ a env st) (fun x st1 => Hi (den Φ b env st1) (fun y st2 => Hi (cmpD o x y st2) (fun z st3 => Br z fun k => (k = true → Hi (den Φ c env st3) (fun u st4 => Hi (cmpD o' y u st4) Q X) X) ∧ (k = false → Q (.bl false) st3)) X) X) X) : Hi (den Φ (.chain o o' a b c) env st) Q X := by
  with_unfolding_all
    simp only [den, M.bind]
    refine Hi.bind (h.imp (fun x st1 h => ?_) fun _ _ _ h => h)
    refine Hi.bind (h.imp (fun y st2 h => ?_) fun _ _ _ h => h)
    refine Hi.bind (h.imp (fun z st3 h => ?_) fun _ _ _ h => h)
    obtain ⟨i, rfl, h1, h2⟩ := h
    cases i with
    | false => exact h2 rfl
    | true => exact Hi.bind (h1 rfl)
theorem hi_idx {a b : E} (h : Hi (den Φ a env st) (fun x st1 => Hi (den Φ b env st1) (fun y st2 => Hi (idxD x y st2) Q X) X) X) : Hi (den Φ (.idx a b) env st) Q X := by
  with_unfolding_all
    simp only [den, M.bind]
    refine Hi.bind (h.imp (fun x st1 h => ?_) fun _ _ _ h => h)
    exact Hi.bind h
theorem hi_onone {Q : Option Int → Sto → Prop} (h : Q none st) : Hi (denO Φ none env st) Q X := by with_unfolding_all exact h
theorem hi_osome {e : E} {Q : Option Int → Sto → Prop} (h : Hi (den Φ e env st) (fun x st1 => IsI x fun i => Q (some i) st1) X) : Hi (denO Φ (some e) env st) Q X := by
  with_unfolding_all
    simp only [denO, M.bind]
    refine Hi.bind (h.imp (fun x st1 h => ?_) fun _ _ _ h => h)
    obtain ⟨i, rfl, h⟩ := h
    exact h
theorem hi_slice {a : E} {lo hi : Option E} (h : Hi (den Φ a env st) (fun x st1 => Hi (denO Φ lo env st1) (fun i st2 => Hi (denO Φ hi env st2) (fun j st3 => Hi (sliceD x i j st3) Q X) X) X) X) : Hi (den Φ (.slice a lo hi) env st) Q X := by
  with_unfolding_all
    simp only [den, M.bind]
    refine Hi.bind (h.imp (fun x st1 h => ?_) fun _ _ _ h => h)
    refine Hi.bind (h.imp (fun x st1 h => ?_) fun _ _ _ h => h)
    exact Hi.bind h
theorem hi_callE {f : Nat} {es : List E} (h : Hi (dens Φ es env st) (fun xs st1 => Hi (Φ f xs st1) Q X) X) : Hi (den Φ (.call f es) env st) Q X := by
  with_unfolding_all
    simp only [den, M.bind]
    exact Hi.bind h
theorem hi_bi {f : Bi} {es : List E} (h : Hi (dens Φ es env st) (fun xs st1 => Hi (biD f xs st1) Q X) X) : Hi (den Φ (.bi f es) env st) Q X := by
  with_unfolding_all
    simp only [den, M.bind]
    exact Hi.bind h
theorem hi_meth {m : Me} {a : E} {es : List E} (h : Hi (den Φ a env st) (fun x st1 => meTy st1 m x = true ∧ Hi (dens Φ es env st1) (fun xs st2 => Hi (methD m x xs st2) Q X) X) X) : Hi (den Φ (.meth m a es) env st) Q X := by
  with_unfolding_all
    simp only [den, M.bind]
    refine Hi.bind (h.imp (fun x st1 h => ?_) fun _ _ _ h => h)
    simp only [h.1, if_true]
    exact Hi.bind h.2
theorem hi_val {a : E} {n : Nat} (h : Hi (den Φ a env st) (fun x st1 => ∃ k c v, x = .ref k ∧ st1[k]? = some (.exc c v) ∧ c < n ∧ Q v st1) X) : Hi (den Φ (.val a n) env st) Q X := by
  with_unfolding_all
    simp only [den, M.bind]
    refine Hi.bind (h.imp (fun x st1 h => ?_) fun _ _ _ h => h)
    obtain ⟨k, c, v, rfl, e, hc, h⟩ := h
    simp only [e, hc, if_true]
    exact h
theorem hi_isI {a : E} {t : Ty} (h : Hi (den Φ a env st) (fun x st1 => ∃ k, isT st1 t x = some k ∧ Q (.bl k) st1) X) : Hi (den Φ (.isI a t) env st) Q X := by
  with_unfolding_all
    simp only [den, M.bind]
    refine Hi.bind (h.imp (fun x st1 h => ?_) fun _ _ _ h => h)
    obtain ⟨k, e, h⟩ := h
    simp only [e]
    exact h
theorem hi_isX {a : E} {c n : Nat} (h : Hi (den Φ a env st) (fun x st1 => (x = .non ∧ Q (.bl false) st1) ∨ ∃ k c' v, x = .ref k ∧ st1[k]? = some (.exc c' v) ∧ c < n ∧ c' < n ∧ Q (.bl (decide (c' = c) || c == 0)) st1) X) : Hi (den Φ (.isX a c n) env st) Q X := by
  with_unfolding_all
    simp only [den, M.bind]
    refine Hi.bind (h.imp (fun x st1 h => ?_) fun _ _ _ h => h)
    rcases h with ⟨rfl, h⟩ | ⟨k, c', v, rfl, e, hc, hc', h⟩
    · exact h
    · simp only [e, hc, hc', and_self, if_true]
      exact h
theorem hi_heard {e : E} (h : Hi (den Φ e env st) (fun v st1 => Q (.tup [.non, v]) st1) (fun c v st1 => Q (.tup [.ref st1.length, .non]) (st1 ++ [.exc c v]))) : Hi (den Φ (.heard e) env st) Q X := by
  with_unfolding_all
    simp only [den]
    cases hd : den Φ e env st with
    | ok v st' => rw [hd] at h; exact h
    | exc c v st' => rw [hd] at h; exact h
    | no => rw [hd] at h; exact h
/-! what is iterated -/
section
variable {Q : Itv → Sto → Prop}
theorem hi_rng1 {a : E} (h : Hi (den Φ a env st) (fun x st1 => ∃ n : Int, x = .int n ∧ small n = true ∧ Q (.rng 0 n.toNat) st1) X) : Hi (denI Φ (.rng1 a) env st) Q X := by
  with_unfolding_all
    simp only [denI, M.bind]
    refine Hi.bind (h.imp (fun x st1 h => ?_) fun _ _ _ h => h)
    obtain ⟨n, rfl, hs, h⟩ := h
    simp only [hs, if_true]
    exact h
theorem hi_rng2 {a b : E} (h : Hi (den Φ a env st) (fun x st1 => Hi (den Φ b env st1) (fun y st2 => ∃ m n : Int, x = .int m ∧ y = .int n ∧ small m = true ∧ small n = true ∧ Q (.rng m (n - m).toNat) st2) X) X) : Hi (denI Φ (.rng2 a b) env st) Q X := by
  with_unfolding_all
    simp only [denI, M.bind]
    refine Hi.bind (h.imp (fun x st1 h => ?_) fun _ _ _ h => h)
    refine Hi.bind (h.imp (fun x st1 h => ?_) fun _ _ _ h => h)
    obtain ⟨m, n, rfl, rfl, hs, hs', h⟩ := h
    simp only [hs, hs', Bool.and_self, if_true]
    exact h
theorem hi_seqT {e : E} (h : Hi (den Φ e env st) (fun x st1 => ∃ xs, x = .tup xs ∧ Q (.sq (.tup xs)) st1) X) : Hi (denI Φ (.seq e) env st) Q X := by
  with_unfolding_all
    simp only [denI, M.bind]
    refine Hi.bind (h.imp (fun x st1 h => ?_) fun _ _ _ h => h)
    obtain ⟨n, rfl, h⟩ := h
    exact h
theorem hi_seqL {e : E} (h : Hi (den Φ e env st) (fun x st1 => ∃ k xs, x = .ref k ∧ st1[k]? = some (.lst xs) ∧ Q (.sq (.ref k)) st1) X) : Hi (denI Φ (.seq e) env st) Q X := by
  with_unfolding_all
    simp only [denI, M.bind]
    refine Hi.bind (h.imp (fun x st1 h => ?_) fun _ _ _ h => h)
    obtain ⟨k, xs, rfl, e, h⟩ := h
    simp only [e]
    exact h
theorem hi_seqF {e : E} (h : Hi (den Φ e env st) (fun x st1 => ∃ xs, x = .frz xs ∧ Q (.sq (.frz xs)) st1) X) : Hi (denI Φ (.seq e) env st) Q X := by
  with_unfolding_all
    simp only [denI, M.bind]
    refine Hi.bind (h.imp (fun x st1 h => ?_) fun _ _ _ h => h)
    obtain ⟨n, rfl, h⟩ := h
    exact h
theorem hi_seqD {e : E} (h : Hi (den Φ e env st) (fun x st1 => ∃ k kvs ep, x = .ref k ∧ st1[k]? = some (.dic kvs ep) ∧ Q (.keys k ep kvs.length) st1) X) : Hi (denI Φ (.seq e) env st) Q X := by
  with_unfolding_all
    simp only [denI, M.bind]
    refine Hi.bind (h.imp (fun x st1 h => ?_) fun _ _ _ h => h)
    obtain ⟨k, xs, ep, rfl, e, h⟩ := h
    simp only [e]
    exact h
end
/-! leaves -/
theorem hi_addI {a b : Int} (h : Q (.int (a + b)) st) : Hi (binD .add (.int a) (.int b) st) Q X := by with_unfolding_all exact h
theorem hi_subI {a b : Int} (h : Q (.int (a - b)) st) : Hi (binD .sub (.int a) (.int b) st) Q X := by with_unfolding_all exact h
theorem hi_mulI {a b : Int} (h1 : a.natAbs.log2 + b.natAbs.log2 < 1000000) (h : Q (.int (a * b)) st) : Hi (binD .mul (.int a) (.int b) st) Q X := by
  with_unfolding_all
    simp only [binD, h1, if_true]; exact h
theorem hi_modI {a b : Int} (h1 : 0 < b) (h : Q (.int (a % b)) st) : Hi (binD .mod (.int a) (.int b) st) Q X := by
  with_unfolding_all
    simp only [binD, h1, if_true]; exact h
theorem hi_fdivI {a b : Int} (h1 : 0 < b) (h2 : b.natAbs.log2 < 9000) (h : Q (.int (a / b)) st) : Hi (binD .fdiv (.int a) (.int b) st) Q X := by
  with_unfolding_all
    simp only [binD, h1, h2, and_self, if_true]; exact h
theorem hi_addT {a b : List D} (h1 : a.length + b.length ≤ lim) (h : Q (.tup (a ++ b)) st) : Hi (binD .add (.tup a) (.tup b) st) Q X := by
  with_unfolding_all
    simp only [binD, h1, if_true]; exact h
theorem flat_rep {xs : List D} {n : Nat} : (List.replicate n xs).flatten.length = xs.length * n := by
  simp [Nat.mul_comm]
theorem hi_mulL {k : Nat} {xs : List D} {b : Int} (e : st[k]? = some (.lst xs)) (hb : small b = true) (hl : xs.length * b.toNat ≤ 16777216) (h : Q (.ref st.length) (st ++ [.lst (List.replicate b.toNat xs).flatten])) : Hi (binD .mul (.ref k) (.int b) st) Q X := by
  with_unfolding_all
    have hl' : xs.length * b.toNat ≤ lim := hl
    simp only [binD, e, hb, hl', decide_true, Bool.and_self, if_true, newL, flat_rep]
    exact h
theorem hi_addL {k l : Nat} {xs ys : List D} (e : st[k]? = some (.lst xs)) (e' : st[l]? = some (.lst ys)) (hl : xs.length + ys.length ≤ 16777216) (h : Q (.ref st.length) (st ++ [.lst (xs ++ ys)])) : Hi (binD .add (.ref k) (.ref l) st) Q X := by
  with_unfolding_all
    have hl' : xs.length + ys.length ≤ lim := hl
    simp only [binD, e, e', newL, List.length_append, hl', if_true]
    exact h
theorem hi_ltI {a b : Int} (h : Q (.bl (decide (a < b))) st) : Hi (cmpD .lt (.int a) (.int b) st) Q X := by with_unfolding_all exact h
theorem hi_leI {a b : Int} (h : Q (.bl (decide (a ≤ b))) st) : Hi (cmpD .le (.int a) (.int b) st) Q X := by with_unfolding_all exact h
theorem hi_gtI {a b : Int} (h : Q (.bl (decide (b < a))) st) : Hi (cmpD .gt (.int a) (.int b) st) Q X := by with_unfolding_all exact h
theorem hi_geI {a b : Int} (h : Q (.bl (decide (b ≤ a))) st) : Hi (cmpD .ge (.int a) (.int b) st) Q X := by with_unfolding_all exact h
theorem hi_eqI {a b : Int} (h : Q (.bl (decide (a = b))) st) : Hi (cmpD .eq (.int a) (.int b) st) Q X := by
  with_unfolding_all
    have e : cmpD .eq (.int a) (.int b) st = .ok (.bl (a == b)) st := rfl
    rw [e]
    by_cases h' : a = b
    · subst h'; simpa [Hi] using h
    · have : (a == b) = false := by simp [h']
      simpa [Hi, h', this] using h
theorem hi_neI {a b : Int} (h : Q (.bl (!decide (a = b))) st) : Hi (cmpD .ne (.int a) (.int b) st) Q X := by
  with_unfolding_all
    have e : cmpD .ne (.int a) (.int b) st = .ok (.bl (!(a == b))) st := rfl
    rw [e]
    by_cases h' : a = b
    · subst h'; simpa [Hi] using h
    · have : (a == b) = false := by simp [h']
      simpa [Hi, h', this] using h
theorem hi_eqD {a b : D} {x y : PySem.PyData} (h1 : snap st deep a = some x) (h2 : snap st deep b = some y) (h : Q (.bl (PySem.PyData.eqv x y)) st) : Hi (cmpD .eq a b st) Q X := by
  with_unfolding_all
    simp only [cmpD, eqD, h1, h2]; exact h
theorem hi_neD {a b : D} {x y : PySem.PyData} (h1 : snap st deep a = some x) (h2 : snap st deep b = some y) (h : Q (.bl (!PySem.PyData.eqv x y)) st) : Hi (cmpD .ne a b st) Q X := by
  with_unfolding_all
    simp only [cmpD, eqD, h1, h2, Option.map_some]; exact h
theorem hi_repr {a : D} {x : PySem.PyData} (h1 : snap st deep a = some x) (h2 : x.showable = true) (h3 : x.shown.length ≤ lim) (h : Q (.str x.shown) st) : Hi (biD .repr [a] st) Q X := by
  with_unfolding_all
    simp only [biD, h1, h2, h3, decide_true, Bool.and_self, if_true]; exact h
theorem hi_neS {a b : PySem.Str} (ha : a.cps.all (· < 0x110000)) (hb : b.cps.all (· < 0x110000)) (h : Q (.bl (!(a == b))) st) : Hi (cmpD .ne (.str a) (.str b) st) Q X := by
  with_unfolding_all
    refine hi_neD (x := .str a) (y := .str b) (by simp only [deep, snap, ha, if_true]) (by simp only [deep, snap, hb, if_true]) ?_
    exact h
theorem hi_lenR {k : Nat} {xs : List D} (e : st[k]? = some (.lst xs)) (h : Q (.int xs.length) st) : Hi (biD .len [.ref k] st) Q X := by
  with_unfolding_all
    simp only [biD, e]; exact h
theorem hi_idxL {k n : Nat} {i : Int} {xs : List D} {v : D} (e : st[k]? = some (.lst xs)) (hp : place xs.length i = some n) (hv : xs[n]? = some v) (h : Q v st) : Hi (idxD (.ref k) (.int i) st) Q X := by
  with_unfolding_all
    simp only [idxD, e, hp, Option.bind_some, hv]; exact h
theorem hi_append {k : Nat} {xs : List D} {d : D} (e : st[k]? = some (.lst xs)) (hl : xs.length < 16777216) (h : Q .non (st.set k (.lst (xs ++ [d])))) : Hi (methD .append (.ref k) [d] st) Q X := by
  with_unfolding_all
    have hl : xs.length < lim := hl
    simp only [methD, e, hl, if_true]; exact h
theorem meTy_L {k : Nat} {m : Me} {xs : List D} (e : st[k]? = some (.lst xs)) (hm : m.ofL = true) : meTy st m (.ref k) = true := by
  simp only [meTy, e, hm]
end
end Mi

set_option Elab.async false
set_option linter.all false
set_option maxRecDepth 100000
set_option maxHeartbeats 1000000
/-! Mi, part Z: sizes of numbers; what draws numbers. -/
namespace Mi
/-! ### how long a number is -/
def lg (x : Int) : Nat := x.natAbs.log2
theorem lg_lt {x : Int} {k : Nat} (h : lg x < k) : x.natAbs < 2 ^ k := by
  unfold lg at h
  by_cases h0 : x.natAbs = 0
  · rw [h0]; exact Nat.two_pow_pos k
  · exact (Nat.log2_lt h0).mp h
theorem lg_of {x : Int} {k : Nat} (hk : 0 < k) (h : x.natAbs < 2 ^ k) : lg x < k := by
  unfold lg
  by_cases h0 : x.natAbs = 0
  · rw [h0]; simpa using hk
  · exact (Nat.log2_lt h0).mpr h
theorem lg_mul {x y : Int} : lg (x * y) ≤ lg x + lg y + 1 := by
  have h1 := lg_lt (Nat.lt_succ_self (lg x))
  have h2 := lg_lt (Nat.lt_succ_self (lg y))
  have h := lg_of (x := x * y) (k := (lg x + 1) + (lg y + 1)) (by omega) (by
    rw [Int.natAbs_mul, Nat.pow_add]
    exact Nat.mul_lt_mul'' h1 h2)
  omega
theorem lg_add {x y : Int} : lg (x + y) ≤ max (lg x) (lg y) + 1 := by
  have h1 := lg_lt (Nat.lt_succ_self (lg x))
  have h2 := lg_lt (Nat.lt_succ_self (lg y))
  have e1 : 2 ^ (lg x + 1) ≤ 2 ^ (max (lg x) (lg y) + 1) := Nat.pow_le_pow_right (by decide) (by omega)
  have e2 : 2 ^ (lg y + 1) ≤ 2 ^ (max (lg x) (lg y) + 1) := Nat.pow_le_pow_right (by decide) (by omega)
  have h := lg_of (x := x + y) (k := max (lg x) (lg y) + 2) (by omega) (by
    rw [Nat.pow_succ]
    have := Int.natAbs_add_le x y
    omega)
  omega
theorem lg_neg {x : Int} : lg (-x) = lg x := by
  unfold lg
  rw [Int.natAbs_neg]
theorem lg_sub {x y : Int} : lg (x - y) ≤ max (lg x) (lg y) + 1 := by
  have := lg_add (x := x) (y := -y)
  rw [lg_neg] at this
  exact this
theorem lg_le {x y : Int} (h0 : 0 ≤ x) (h : x ≤ y) : lg x ≤ lg y := by
  have h2 := lg_lt (Nat.lt_succ_self (lg y))
  have h := lg_of (x := x) (k := lg y + 1) (by omega) (by omega)
  omega
theorem lg_mod {x m : Int} (h : 0 < m) : lg (x % m) ≤ lg m := lg_le (Int.emod_nonneg x (by omega)) (Int.le_of_lt (Int.emod_lt_of_pos x h))
theorem lg_div {x m : Int} (h0 : 0 ≤ x) (h : 0 < m) : lg (x / m) ≤ lg x := lg_le (Int.ediv_nonneg h0 (by omega)) (Int.ediv_le_self _ h0)
theorem lg_small {x : Int} (h0 : 0 ≤ x) (h : x ≤ 1000000000000) : lg x ≤ 40 := Nat.le_trans (lg_le h0 h) (by decide)
theorem log_mul {x y : Int} (h : lg x + lg y < 1000000) : x.natAbs.log2 + y.natAbs.log2 < 1000000 := h

section
variable {Φ : Nat → List D → M D} {X : Nat → D → Sto → Prop} {Q : D → Sto → Prop} {env : Sl} {st : Sto}
/-! ### leaves -/
theorem hi_mulG {a b : Int} (h1 : lg a + lg b < 1000000) (h : Q (.int (a * b)) st) : Hi (binD .mul (.int a) (.int b) st) Q X := hi_mulI h1 h
theorem hi_powI {a b : Int} (h0 : 0 ≤ b) (h1 : ((lg a + 1 : Nat) : Int) * b ≤ 1000000) (h : Q (.int (a ^ b.toNat)) st) : Hi (binD .pow (.int a) (.int b) st) Q X := by
  have h1' : ((a.natAbs.log2 + 1 : Nat) : Int) * b ≤ 1000000 := h1
  simp only [binD, h0, h1', and_self, if_true]; exact Hi.okI h
theorem hi_intI {a : Int} (h : Q (.int a) st) : Hi (biD .int [.int a] st) Q X := Hi.okI h
theorem hi_intB {a : Bool} (h : Q (.int (if a then 1 else 0)) st) : Hi (biD .int [.bl a] st) Q X := Hi.okI h
theorem hi_absI {a : Int} (h : Q (.int (if a < 0 then -a else a)) st) : Hi (biD .abs [.int a] st) Q X := Hi.okI h
theorem hi_lenT {xs : List D} (h : Q (.int xs.length) st) : Hi (biD .len [.tup xs] st) Q X := Hi.okI h
theorem hi_lenF {xs : List D} (h : Q (.int xs.length) st) : Hi (biD .len [.frz xs] st) Q X := Hi.okI h
theorem hi_idxAll {k : Nat} {i : Int} {xs : List D} (e : st[k]? = some (.lst xs)) (h0 : 0 ≤ i) (h1 : i < xs.length) (h : ∀ v ∈ xs, Q v st) : Hi (idxD (.ref k) (.int i) st) Q X := by
  obtain ⟨n, rfl⟩ : ∃ n : Nat, i = n := ⟨i.toNat, by omega⟩
  have hn : n < xs.length := by omega
  exact hi_idxL e (place_nat hn) (List.getElem?_eq_getElem hn) (h _ (List.getElem_mem hn))
theorem hi_idxT {i : Int} {n : Nat} {xs : List D} {v : D} (hp : place xs.length i = some n) (hv : xs[n]? = some v) (h : Q v st) : Hi (idxD (.tup xs) (.int i) st) Q X := by
  simp only [idxD, hp, Option.bind_some, hv]; exact Hi.okI h
theorem hi_idxF {i : Int} {n : Nat} {xs : List D} {v : D} (hp : place xs.length i = some n) (hv : xs[n]? = some v) (h : Q v st) : Hi (idxD (.frz xs) (.int i) st) Q X := by
  simp only [idxD, hp, Option.bind_some, hv]; exact Hi.okI h
theorem hi_sliceF {lo hi : Option Int} {xs : List D} (hl : (cut xs lo hi).length ≤ 16777216) (h : Q (.ref st.length) (st ++ [.lst (cut xs lo hi)])) : Hi (sliceD (.frz xs) lo hi st) Q X := by
  have hl' : (cut xs lo hi).length ≤ lim := hl
  simp only [sliceD, newL, hl', if_true]; exact Hi.okI h
theorem hi_sliceT {lo hi : Option Int} {xs : List D} (h : Q (.tup (cut xs lo hi)) st) : Hi (sliceD (.tup xs) lo hi st) Q X := Hi.okI h
theorem hi_sum {k : Nat} {cs : List Int} (e : st[k]? = some (.lst (cs.map D.int))) (h : Q (.int cs.sum) st) : Hi (biD .sum [.ref k] st) Q X := by
  rw [sum_ints e]; exact Hi.okI h
theorem hi_max {a b : Int} (h : Q (.int (if b > a then b else a)) st) : Hi (biD .max2 [.int a, .int b] st) Q X := Hi.okI h
theorem hi_min {a b : Int} (h : Q (.int (if b < a then b else a)) st) : Hi (biD .min2 [.int a, .int b] st) Q X := Hi.okI h
theorem hi_lrange {n : Int} (hs : small n = true) (hl : n.toNat ≤ 16777216) (h : Q (.ref st.length) (st ++ [.lst ((List.range n.toNat).map fun i => .int (i : Nat))])) : Hi (biD .lrange [.int n] st) Q X := by
  have hl' : ((List.range n.toNat).map fun i => D.int (i : Nat)).length ≤ lim := by
    simp only [List.length_map, List.length_range]
    exact hl
  simp only [biD, hs, if_true, newL, hl']; exact Hi.okI h
theorem put_L {p n : Nat} {i : Int} {xs : List D} {v : D} (e : st[p]? = some (.lst xs)) (hp : place xs.length i = some n) : putD (.ref p) (.int i) v st = some (st.set p (.lst (xs.set n v))) := by
  simp only [putD, e, hp, Option.map_some]
theorem hi_tupL {k : Nat} {xs : List D} (e : st[k]? = some (.lst xs)) (h : Q (.tup xs) st) : Hi (biD .tuple [.ref k] st) Q X := by
  simp only [biD, isSeq, e]; exact Hi.okI h
end
/-! ### draws -/
/-- a pot: its numbers; drawn from C times at most -/
def PotAt (C : Int) (st : Sto) (p : Nat) : Prop := ∃ a b c : Int, st[p]? = some (.lst [.int a, .int b, .int c]) ∧ 0 ≤ a ∧ lg a ≤ 1100 ∧ 0 ≤ b ∧ lg b ≤ 64 ∧ 0 ≤ c ∧ c ≤ C
theorem PotAt.lt {C : Int} {st : Sto} {p : Nat} (h : PotAt C st p) : p < st.length := by
  obtain ⟨a, b, c, e, _⟩ := h
  exact get_lt e
theorem PotAt.mono {C C' : Int} {st : Sto} {p : Nat} (h : PotAt C st p) (hc : C ≤ C') : PotAt C' st p := by
  obtain ⟨a, b, c, e, h1, h2, h3, h4, h5, h6⟩ := h
  exact ⟨a, b, c, e, h1, h2, h3, h4, h5, by omega⟩
theorem PotAt.pre {C : Int} {st st' : Sto} {p : Nat} (h : PotAt C st p) (hp : Pre st st') : PotAt C st' p := by
  obtain ⟨a, b, c, e, h⟩ := h
  exact ⟨a, b, c, hp.get e, h⟩
/-- three numbers -/
def O3 (a b c : Int) : O := .lst [.int a, .int b, .int c]
theorem O3_flat {a b c : Int} : (O3 a b c).flat = true := rfl
def potB (k3 k4 k5 : Int) : List S := [.set (.name 3) (.bin .mul (.bin .mod (.bi .int [(.bi .abs [(.var 2)])]) (.bin .pow (.bin .pow (.cst (.int 10)) (.cst (.int 60))) (.cst (.int 5)))) (.bi .int [(.cmp .ge (.bi .abs [(.var 2)]) (.bin .pow (.cst (.int 10)) (.cst (.int 18))))])),
  .set (.name 4) (.bin .mod (.bi .int [(.var 2)]) (.cst (.int 2305843009213693951))),
  .ret (.lst [(.var 3), (.bin .mod (.bi .int [(.bin .add (.bin .add (.bin .mul (.var 4) (.cst (.int k3))) (.bin .mul (.bin .mul (.cst (.int k4)) (.var 1)) (.var 1))) (.cst (.int k5)))]) (.cst (.int 2305843009213693921))), (.cst (.int 0))])]
def FnPot (k1 k2 k3 k4 k5 : Int) : Fn := ⟨2, 5, .set (.name 2) (.ite (.cmp .lt (.var 1) (.bi .len [(.var 0)])) (.idx (.var 0) (.var 1)) (.bin .add (.bin .add (.bin .mod (.bi .sum [(.slice (.var 0) none (some (.cst (.int 1))))]) (.cst (.int 1000003))) (.bin .mul (.cst (.int k1)) (.var 1))) (.cst (.int k2)))) :: potB k3 k4 k5⟩
def takeA : List S := [.set (.name 2) (.bin .mod (.bi .int [(.idx (.var 0) (.cst (.int 0)))]) (.var 1)),
    .put (.var 0) (.cst (.int 0)) (.bin .fdiv (.idx (.var 0) (.cst (.int 0))) (.var 1)),
    .ret (.var 2)]
def FnTake (k1 k2 k3 k4 k5 : Int) : Fn := ⟨2, 5, [.ifs (.cmp .gt (.idx (.var 0) (.cst (.int 0))) (.cst (.int 0))) takeA [],
  .put (.var 0) (.cst (.int 2)) (.bin .add (.idx (.var 0) (.cst (.int 2))) (.cst (.int 1))),
  .set (.name 3) (.idx (.lst [(.cst (.int 2147483647)), (.cst (.int 2147483629)), (.cst (.int 2147483587)), (.cst (.int 2147483579)), (.cst (.int 2147483563))]) (.bin .mod (.bi .int [(.idx (.var 0) (.cst (.int 2)))]) (.cst (.int 5)))),
  .set (.name 4) (.bin .mod (.bi .int [(.bin .pow (.bi .int [(.bin .add (.bin .add (.idx (.var 0) (.cst (.int 1))) (.bin .mul (.bin .mul (.cst (.int k1)) (.idx (.var 0) (.cst (.int 2)))) (.idx (.var 0) (.cst (.int 2))))) (.cst (.int k2)))]) (.cst (.int 3)))]) (.var 3)),
  .set (.name 4) (.bin .mod (.bi .int [(.bin .mul (.var 4) (.bin .add (.bin .mod (.bi .int [(.var 4)]) (.cst (.int k3))) (.bin .mul (.cst (.int k4)) (.idx (.var 0) (.cst (.int 2))))))]) (.cst (.int 2305843009213693907))),
  .ret (.bin .mod (.bi .int [(.bin .fdiv (.var 4) (.cst (.int k5)))]) (.var 1))]⟩
local macro_rules | `(tactic| fail "go") => `(tactic| first
  | with_reducible refine hi_cst ?_
  | with_reducible refine hi_var (by with_unfolding_all exact rfl) ?_
  | with_reducible refine hi_bin ?_ | with_reducible refine hi_cmp ?_ | with_reducible refine hi_idx ?_
  | with_reducible refine hi_callE ?_ | with_reducible refine hi_bi ?_ | with_reducible refine hi_dcons ?_ | with_reducible refine hi_dnil ?_
  | with_reducible refine hi_tup ?_ | with_reducible refine hi_lst ?_ | with_reducible refine hi_dic ?_ | with_reducible refine hi_neg ?_ | with_reducible refine hi_not ?_
  | with_reducible refine hi_and ?_ | with_reducible refine hi_or ?_ | with_reducible refine hi_ite ?_ | with_reducible refine hi_chain ?_
  | with_reducible refine hi_slice ?_ | with_reducible refine hi_onone ?_ | with_reducible refine hi_osome ?_ | with_reducible refine hi_meth ?_
  | with_reducible refine hi_isI ?_ | with_reducible refine hi_isX ?_ | with_reducible refine hi_val ?_ | with_reducible refine hi_heard ?_
  | with_reducible refine hi_addI ?_ | with_reducible refine hi_subI ?_ | with_reducible refine hi_ltI ?_ | with_reducible refine hi_leI ?_ | with_reducible refine hi_gtI ?_ | with_reducible refine hi_geI ?_ | with_reducible refine hi_eqI ?_ | with_reducible refine hi_neI ?_
  | with_reducible refine Br.mk ?_ | with_reducible refine IsI.mk ?_
  | with_reducible refine hi_ret ?_ | with_reducible refine hi_raise ?_ | with_reducible refine hi_expr ?_ | with_reducible refine hi_ifs ?_ | with_reducible refine hi_nil ?_ | with_reducible refine hi_put ?_
  | with_reducible refine hi_set (by with_unfolding_all exact rfl) ?_ | with_reducible refine hi_setG ?_
  | with_reducible refine PutG.mk (by with_unfolding_all exact rfl) ?_ | with_reducible refine Fits.mk (by with_unfolding_all exact rfl) ?_
  | with_reducible refine hi_intI ?_ | with_reducible refine hi_intB ?_ | with_reducible refine hi_absI ?_ | with_reducible refine hi_lenT ?_ | with_reducible refine hi_lenF ?_ | with_reducible refine hi_sliceT ?_ | with_reducible refine hi_max ?_ | with_reducible refine hi_min ?_
  | with_reducible refine hi_rng1 ?_ | with_reducible refine hi_rng2 ?_
  | dsimp only [ct, cf, nt, nf, goOn, retD, List.set_cons_succ, List.set_cons_zero])
/-- what a draw tells -/
def TakeQ (p : Nat) (C n : Int) (st : Sto) (v : D) (st' : Sto) : Prop := ∃ k a b c : Int, v = .int k ∧ 0 ≤ k ∧ k < n ∧ st' = st.set p (O3 a b c) ∧ PotAt (C + 1) st' p
theorem take_ok {FT : List Fn} {d i p : Nat} {k1 k2 k3 k4 k5 C n : Int} {st : Sto} (hf : FT[i]? = some (FnTake k1 k2 k3 k4 k5)) (h1 : 0 ≤ k1 ∧ k1 ≤ 1000000000000) (h2 : 0 ≤ k2 ∧ k2 ≤ 1000000000000) (h3 : 0 < k3 ∧ k3 ≤ 1000000000000) (h4 : 0 ≤ k4 ∧ k4 ≤ 1000000000000) (h5 : 0 < k5 ∧ k5 ≤ 1000000000000)
    (hp : PotAt C st p) (hC : C < 1000000000000) (hn : 0 < n ∧ n ≤ 1000000000000) : Hi (callN FT (d + 1) i [.ref p, .int n] st) (TakeQ p C n st) (fun _ _ _ => False) := by
  obtain ⟨a, b, c, e, ha, hla, hb, hlb, hc, hcC⟩ := hp
  have hpl := get_lt e
  refine hi_call (f := FnTake k1 k2 k3 k4 k5) [some (.ref p), some (.int n), none, none, none] hf rfl (Nat.le_of_ble_eq_true rfl) rfl ?_
  unfold FnTake
  repeat fail "go"
  refine hi_idxL e (n := 0) rfl rfl ?_
  repeat fail "go"
  by_cases hpos : 0 < a
  · simp only [hpos, decide_true]
    repeat fail "go"
    unfold takeA
    repeat fail "go"
    refine hi_idxL e (n := 0) rfl rfl ?_
    repeat fail "go"
    refine hi_modI hn.1 ?_
    repeat fail "go"
    refine hi_idxL e (n := 0) rfl rfl ?_
    repeat fail "go"
    have := lg_small (x := n) (by omega) (by omega)
    refine hi_fdivI hn.1 (by unfold lg at this; omega) ?_
    repeat fail "go"
    refine ⟨_, put_L e (n := 0) rfl, ?_⟩
    repeat fail "go"
    have hset : (O.lst [D.int (a / n), D.int b, D.int c]) = O3 (a / n) b c := rfl
    rw [hset]
    have ht := tidy_set (p := p) (o := O3 (a / n) b c) (st := st) (v := .int (a % n)) rfl O3_flat Pre.refl
    with_reducible refine Hi.eqc ht ?_
    refine ⟨a % n, a / n, b, c, rfl, Int.emod_nonneg _ (by omega), Int.emod_lt_of_pos _ hn.1, rfl, a / n, b, c, ?_, Int.ediv_nonneg ha (by omega), Nat.le_trans (lg_div ha hn.1) hla, hb, hlb, hc, by omega⟩
    rw [get_set e]
    rfl
  · simp only [hpos, decide_false]
    repeat fail "go"
    refine hi_idxL e (n := 2) rfl rfl ?_
    repeat fail "go"
    refine ⟨_, put_L e (n := 2) rfl, ?_⟩
    have hset : st.set p (O.lst (([D.int a, D.int b, D.int c] : List D).set 2 (.int (c + 1)))) = st.set p (O3 a b (c + 1)) := rfl
    rw [hset]
    have e2 : (st.set p (O3 a b (c + 1)))[p]? = some (.lst [.int a, .int b, .int (c + 1)]) := get_set e
    repeat fail "go"
    have e3 := get_app (g := [O.lst [D.int 2147483647, D.int 2147483629, D.int 2147483587, D.int 2147483579, D.int 2147483563]]) e2
    refine hi_idxL e3 (n := 2) rfl rfl ?_
    repeat fail "go"
    refine hi_modI (by decide) ?_
    repeat fail "go"
    refine hi_idxAll get_new (Int.emod_nonneg _ (by decide)) (Int.emod_lt_of_pos _ (by decide)) ?_
    intro P hP
    have hP : ∃ q : Int, P = .int q ∧ 0 < q ∧ lg q ≤ 40 := by
      simp only [List.mem_cons, List.not_mem_nil, or_false] at hP
      rcases hP with rfl | rfl | rfl | rfl | rfl <;> exact ⟨_, rfl, by decide, by decide⟩
    obtain ⟨q, rfl, hq, hlq⟩ := hP
    have c40 := lg_small (x := c + 1) (by omega) (by omega)
    have l1 := lg_small h1.1 h1.2
    have l2 := lg_small h2.1 h2.2
    have l3 := lg_small (Int.le_of_lt h3.1) h3.2
    have l4 := lg_small h4.1 h4.2
    have l5 := lg_small (Int.le_of_lt h5.1) h5.2
    have m1 := lg_mul (x := k1) (y := c + 1)
    have m2 := lg_mul (x := k1 * (c + 1)) (y := c + 1)
    have m3 := lg_add (x := b) (y := k1 * (c + 1) * (c + 1))
    have m4 := lg_add (x := b + k1 * (c + 1) * (c + 1)) (y := k2)
    repeat fail "go"
    refine hi_idxL e3 (n := 1) rfl rfl ?_
    repeat fail "go"
    refine hi_idxL e3 (n := 2) rfl rfl ?_
    repeat fail "go"
    refine hi_mulG (by omega) ?_
    repeat fail "go"
    refine hi_idxL e3 (n := 2) rfl rfl ?_
    repeat fail "go"
    refine hi_mulG (by omega) ?_
    repeat fail "go"
    with_reducible refine hi_powI ?_ ?_ ?_
    · decide
    · omega
    repeat fail "go"
    refine hi_modI hq ?_
    repeat fail "go"
    generalize hB : ((b + k1 * (c + 1) * (c + 1) + k2) ^ (3 : Int).toNat % q) = B
    have lB : lg B ≤ 40 := by
      rw [← hB]
      exact Nat.le_trans (lg_mod hq) hlq
    have B0 : 0 ≤ B := by
      rw [← hB]
      exact Int.emod_nonneg _ (by omega)
    refine hi_modI h3.1 ?_
    repeat fail "go"
    refine hi_idxL e3 (n := 2) rfl rfl ?_
    repeat fail "go"
    have m5 := lg_mul (x := k4) (y := c + 1)
    have m6 := lg_add (x := B % k3) (y := k4 * (c + 1))
    have m7 := lg_mod (x := B) h3.1
    refine hi_mulG (by omega) ?_
    repeat fail "go"
    refine hi_mulG (by omega) ?_
    repeat fail "go"
    refine hi_modI (by decide) ?_
    repeat fail "go"
    refine hi_fdivI h5.1 (by unfold lg at l5; omega) ?_
    repeat fail "go"
    refine hi_modI hn.1 ?_
    repeat fail "go"
    generalize hR : B * (B % k3 + k4 * (c + 1)) % 2305843009213693907 / k5 % n = R
    have ht := tidy_set (p := p) (o := O3 a b (c + 1)) (st := st) (v := .int R) rfl O3_flat (Pre.refl.app (g := [O.lst [D.int 2147483647, D.int 2147483629, D.int 2147483587, D.int 2147483579, D.int 2147483563]]))
    with_reducible refine Hi.eqc ht ?_
    have hR0 : 0 ≤ R := by
      rw [← hR]
      exact Int.emod_nonneg _ (Int.ne_of_gt hn.1)
    have hR1 : R < n := by
      rw [← hR]
      exact Int.emod_lt_of_pos _ hn.1
    exact ⟨R, a, b, c + 1, rfl, hR0, hR1, rfl, a, b, c + 1, e2, ha, hla, hb, hlb, by omega, by omega⟩
/-- one of a list's items -/
theorem of_ok {FT : List Fn} {d i j p l : Nat} {k1 k2 k3 k4 k5 C : Int} {st : Sto} {xs : List D} {Q : D → Sto → Prop} {X : Nat → D → Sto → Prop} (hf : FT[i]? = some (FnTake k1 k2 k3 k4 k5)) (hj : FT[j]? = some ⟨2, 2, [.ret (.idx (.var 1) (.call i [(.var 0), (.bi .len [(.var 1)])]))]⟩) (h1 : 0 ≤ k1 ∧ k1 ≤ 1000000000000) (h2 : 0 ≤ k2 ∧ k2 ≤ 1000000000000) (h3 : 0 < k3 ∧ k3 ≤ 1000000000000) (h4 : 0 ≤ k4 ∧ k4 ≤ 1000000000000) (h5 : 0 < k5 ∧ k5 ≤ 1000000000000)
    (hp : PotAt C st p) (hC : C < 1000000000000) (hl : st[l]? = some (.lst xs)) (hpl : p ≠ l) (hx0 : xs ≠ []) (hx : xs.length ≤ 1000000) (hQ : ∀ v ∈ xs, v.flat = true ∧ ∀ a b c : Int, PotAt (C + 1) (st.set p (O3 a b c)) p → Q v (st.set p (O3 a b c))) : Hi (callN FT (d + 2) j [.ref p, .ref l] st) Q X := by
  refine hi_call (f := ⟨2, 2, [.ret (.idx (.var 1) (.call i [(.var 0), (.bi .len [(.var 1)])]))]⟩) [some (.ref p), some (.ref l)] hj rfl (Nat.le_refl _) rfl ?_
  repeat fail "go"
  refine hi_lenR hl ?_
  repeat fail "go"
  have hpos : 0 < xs.length := List.length_pos_iff.mpr hx0
  refine (take_ok (d := d) (n := xs.length) hf h1 h2 h3 h4 h5 hp hC ⟨by omega, by omega⟩).imp ?_ (fun _ _ _ h => False.elim h)
  rintro v st' ⟨k, a, b, c, rfl, h0, hk, rfl, hp'⟩
  have hl' : (st.set p (O3 a b c))[l]? = some (.lst xs) := get_set_ne hl hpl
  refine hi_idxAll hl' h0 hk ?_
  intro v hv
  repeat fail "go"
  obtain ⟨hflat, hq⟩ := hQ v hv
  have ht := tidy_set (p := p) (o := O3 a b c) (st := st) (v := v) hflat O3_flat Pre.refl
  with_reducible refine Hi.eqc ht ?_
  exact hq a b c hp'
/-- a pot is made -/
theorem pot_ok {FT : List Fn} {d i pl : Nat} {k1 k2 k3 k4 k5 : Int} {st : Sto} {ns : List Int} {X : Nat → D → Sto → Prop} (hf : FT[i]? = some (FnPot k1 k2 k3 k4 k5)) (h1 : 0 ≤ k1 ∧ k1 ≤ 1000000000000) (h3 : 0 ≤ k3 ∧ k3 ≤ 1000000000000) (h4 : 0 ≤ k4 ∧ k4 ≤ 1000000000000) (hpl : pl ≤ 1000) :
    Hi (callN FT (d + 1) i [.frz (ns.map D.int), .int (pl : Nat)] st) (fun v st' => ∃ p, v = .ref p ∧ Pre st st' ∧ st.length ≤ p ∧ PotAt 0 st' p) X := by
  refine hi_call (f := FnPot k1 k2 k3 k4 k5) [some (.frz (ns.map D.int)), some (.int (pl : Nat)), none, none, none] hf rfl (Nat.le_of_ble_eq_true rfl) rfl ?_
  unfold FnPot
  repeat fail "go"
  have l1 := lg_small h1.1 h1.2
  have l3 := lg_small h3.1 h3.2
  have l4 := lg_small h4.1 h4.2
  have lp := lg_small (x := (pl : Int)) (by omega) (by omega)
  have hrest : ∀ (cell : Int) (st1 : Sto), Pre st st1 → Hi (denSs (callN FT d) (potB k3 k4 k5) [some (.frz (ns.map D.int)), some (.int (pl : Nat)), some (.int cell), none, none] st1)
    (retD fun u st' => Hi (tidy st (.ok u st')) (fun v st' => ∃ p, v = .ref p ∧ Pre st st' ∧ st.length ≤ p ∧ PotAt 0 st' p) X) (fun c u st' => Hi (tidy st (.exc c u st')) (fun v st' => ∃ p, v = .ref p ∧ Pre st st' ∧ st.length ≤ p ∧ PotAt 0 st' p) X) := by
    intro cell st1 hpre
    unfold potB
    repeat fail "go"
    refine hi_powI (by decide) (by decide +kernel) ?_
    repeat fail "go"
    refine hi_powI (by decide) (by decide +kernel) ?_
    have hbig : (0 : Int) < ((10 ^ (60 : Int).toNat) ^ (5 : Int).toNat) := by decide +kernel
    have hlbig : lg ((10 ^ (60 : Int).toNat) ^ (5 : Int).toNat) ≤ 1000 := by decide +kernel
    generalize ((10 ^ (60 : Int).toNat) ^ (5 : Int).toNat : Int) = P at hbig hlbig
    refine hi_modI hbig ?_
    repeat fail "go"
    refine hi_powI (by decide) (by decide +kernel) ?_
    repeat fail "go"
    generalize hA : (if cell < 0 then -cell else cell) = A
    have g1 := lg_mod (x := A) hbig
    generalize hT : (if decide (10 ^ (18 : Int).toNat ≤ A) = true then (1 : Int) else 0) = T
    have hT01 : T = 0 ∨ T = 1 := by
      rw [← hT]
      split <;> simp
    have lT : lg T ≤ 1 := by rcases hT01 with rfl | rfl <;> decide
    refine hi_mulG (by omega) ?_
    repeat fail "go"
    refine hi_modI (by decide) ?_
    repeat fail "go"
    generalize hS : cell % 2305843009213693951 = S
    have lS : lg S ≤ 62 := by
      rw [← hS]
      exact Nat.le_trans (lg_mod (by decide)) (by decide +kernel)
    refine hi_mulG (by omega) ?_
    repeat fail "go"
    refine hi_mulG (by omega) ?_
    repeat fail "go"
    have m1 := lg_mul (x := k4) (y := (pl : Int))
    refine hi_mulG (by omega) ?_
    repeat fail "go"
    refine hi_modI (by decide) ?_
    repeat fail "go"
    generalize hW : (S * k3 + k4 * (pl : Int) * (pl : Int) + k5) % 2305843009213693921 = W
    have W0 : 0 ≤ W := by
      rw [← hW]
      exact Int.emod_nonneg _ (by decide)
    have lW : lg W ≤ 62 := by
      rw [← hW]
      exact Nat.le_trans (lg_mod (by decide)) (by decide +kernel)
    have hA0 : 0 ≤ A % P := Int.emod_nonneg _ (by omega)
    have g2 := lg_mul (x := A % P) (y := T)
    have ht : tidy st (.ok (.ref st1.length) (st1 ++ [O.lst [D.int (A % P * T), D.int W, D.int 0]])) = .ok (.ref st1.length) (st1 ++ [O.lst [D.int (A % P * T), D.int W, D.int 0]]) := rfl
    with_reducible refine Hi.eqc ht ?_
    refine ⟨_, rfl, hpre.app, hpre.le, _, _, _, get_new, ?_, by omega, W0, by omega, by decide, by decide⟩
    rcases hT01 with rfl | rfl
    · simp
    · simpa using hA0
  by_cases hlt : pl < ns.length
  · have hd : decide ((pl : Int) < ((ns.map D.int).length : Nat)) = true := by simp; omega
    rw [hd]
    repeat fail "go"
    refine hi_idxF (n := pl) (v := .int (ns.getD pl 0)) (place_nat (by simpa using hlt)) (by simp [hlt]) ?_
    repeat fail "go"
    exact hrest _ _ Pre.refl
  · have hd : decide ((pl : Int) < ((ns.map D.int).length : Nat)) = false := by simp; omega
    rw [hd]
    repeat fail "go"
    have hcut : cut (ns.map D.int) none (some 1) = (ns.take 1).map D.int := by
      simp only [cut, bound, List.length_map]
      rw [if_neg (by decide), List.drop_zero, List.map_take]
      cases ns with
      | nil => rfl
      | cons a r => simp
    refine hi_sliceF (by rw [hcut]; simp; omega) ?_
    repeat fail "go"
    rw [hcut]
    refine hi_sum get_new ?_
    repeat fail "go"
    refine hi_modI (by decide) ?_
    repeat fail "go"
    refine hi_mulG (by omega) ?_
    repeat fail "go"
    exact hrest _ _ Pre.refl.app
/-- the places that are looked at -/
theorem places_ok {FT : List Fn} {d i : Nat} {most : Nat} {st : Sto} {ns : List Int} {X : Nat → D → Sto → Prop} (hf : FT[i]? = some ⟨2, 2, [.ret (.bi .lrange [(.bi .max2 [(.cst (.int 1)), (.bi .min2 [(.var 1), (.bi .len [(.var 0)])])])])]⟩) (hm : most ≤ 1000) :
    Hi (callN FT (d + 1) i [.frz (ns.map D.int), .int (most : Nat)] st) (fun v st' => ∃ n, n ≤ max 1 most ∧ v = .ref st.length ∧ st' = st ++ [.lst ((List.range n).map fun i => .int (i : Nat))]) X := by
  refine hi_call (f := ⟨2, 2, [.ret (.bi .lrange [(.bi .max2 [(.cst (.int 1)), (.bi .min2 [(.var 1), (.bi .len [(.var 0)])])])])]⟩) [some (.frz (ns.map D.int)), some (.int (most : Nat))] hf rfl (by decide) rfl ?_
  repeat fail "go"
  generalize hN : (if (if ((ns.map D.int).length : Int) < (most : Int) then ((ns.map D.int).length : Int) else (most : Int)) > 1 then (if ((ns.map D.int).length : Int) < (most : Int) then ((ns.map D.int).length : Int) else (most : Int)) else (1 : Int)) = N
  have hN2 : 0 ≤ N ∧ N ≤ max 1 most := by
    rw [← hN]
    split <;> split <;> omega
  refine hi_lrange ?_ (by omega) ?_
  · unfold small
    simp only [Bool.and_eq_true, decide_eq_true_eq]
    omega
  repeat fail "go"
  have ht : tidy st (.ok (.ref st.length) (st ++ [O.lst ((List.range N.toNat).map fun i => D.int (i : Nat))])) = .ok (.ref st.length) (st ++ [O.lst ((List.range N.toNat).map fun i => D.int (i : Nat))]) := rfl
  with_reducible refine Hi.eqc ht ?_
  exact ⟨N.toNat, by omega, rfl, rfl⟩
/-- a loop over items that are known: J of those that are done -/
theorem hi_forP {Φ : Nat → List D → M D} {X : Nat → D → Sto → Prop} {β : Type} {g : Tg} {it : I} {b ss : List S} {env : Sl} {st st1 : Sto} {t : Itv} {Q : Fl → Sto → Prop} (ys : List β) (enc : β → D) (J : List β → Sl → Sto → Prop) (hI : Hi (denI Φ it env st) (fun t' s => t' = t ∧ s = st1) (fun _ _ _ => False)) (hat : ∀ zs env st i, J zs env st → i ≤ ys.length → t.at st i = some (ys.map enc)[i]?) (hlen : ys.length < 1000000000)
    (step : ∀ zs y ws env st, ys = zs ++ y :: ws → J zs env st → ∃ env', g.put (enc y) env = some env' ∧ Hi (denSs Φ b env' st) (fun fl st' => match fl with
      | .nx e => J (zs ++ [y]) e st'
      | .ct e => J (zs ++ [y]) e st'
      | .bk e => Hi (denSs Φ ss e st') Q X
      | .rt d => Q (.rt d) st') X) (h0 : J [] env st1) (fin : ∀ env st, J ys env st → Hi (denSs Φ ss env st) Q X) : Hi (denSs Φ (.fors g it b :: ss) env st) Q X := by
  with_reducible refine hi_for (t := t) (st1 := st1) (ys.map enc) (fun i env st => J (ys.take i) env st) hI (fun i env st hi hj => hat _ _ _ i hj (by simpa using hi)) (by simpa using hlen) ?_ ?_ ?_
  · intro i x env st hx hj
    rw [List.getElem?_map] at hx
    cases hy : ys[i]? with
    | none => rw [hy] at hx; exact nomatch hx
    | some y =>
      rw [hy] at hx
      cases hx
      have hi : i < ys.length := by
        rcases Nat.lt_or_ge i ys.length with z | z
        · exact z
        · rw [List.getElem?_eq_none z] at hy; cases hy
      have hyi : ys[i] = y := by
        rw [List.getElem?_eq_getElem hi] at hy
        exact Option.some.inj hy
      have hs : ys = ys.take i ++ y :: ys.drop (i + 1) := by
        rw [← hyi, ← List.drop_eq_getElem_cons hi, List.take_append_drop]
      have ht : ys.take (i + 1) = ys.take i ++ [y] := by
        rw [List.take_add_one, hy]
        rfl
      obtain ⟨env', e1, h⟩ := step (ys.take i) y (ys.drop (i + 1)) env st hs hj
      refine ⟨env', e1, h.imp (fun fl st' h => ?_) fun _ _ _ h => h⟩
      cases fl with
      | nx e => dsimp only at h ⊢; rw [ht]; exact h
      | ct e => dsimp only at h ⊢; rw [ht]; exact h
      | bk e => exact h
      | rt d => exact h
  · simpa using h0
  · intro env st hj
    refine fin env st ?_
    have : ys.take (ys.map enc).length = ys := by simp
    rw [this] at hj
    exact hj
end Mi

set_option Elab.async false
set_option linter.all false
set_option maxRecDepth 100000
set_option maxHeartbeats 1000000
/-! Mi: what is shown. -/
namespace Mi
open PySem
def okC (s : Str) : Bool := s.cps.all (· < 0x110000)
/-- it can be shown, and the text is one -/
structure Good (p : PyData) : Prop where
  sh : p.showable = true
  len : p.shown.length ≤ 16777216
  cps : okC p.shown = true
section
variable {Φ : Nat → List D → M D} {X : Nat → D → Sto → Prop} {Q : D → Sto → Prop} {env : Sl} {st : Sto}
theorem hi_reprG {d : D} {p : PyData} (h1 : snap st deep d = some p) (g : Good p) (h : Q (.str p.shown) st) : Hi (biD .repr [d] st) Q X := hi_repr h1 g.sh g.len h
theorem hi_neSame {s : Str} (hs : okC s = true) (h : Q (.bl false) st) : Hi (cmpD .ne (.str s) (.str s) st) Q X := by
  refine hi_neS hs hs ?_
  have : (s == s) = true := by simp
  rw [this]
  exact h
end
theorem tidy_ok {v : D} {st s : Sto} : ∃ s', tidy st (.ok v s) = .ok v s' := by
  by_cases h : (v.flat && sameBut st.length st s) = true
  · exact ⟨s.take st.length, by simp only [tidy, h, if_true]⟩
  · exact ⟨s, by simp only [tidy, h]; rfl⟩
theorem Hi.ex {α : Type} {o : Out α} {a : α} (h : Hi o (fun v _ => v = a) (fun _ _ _ => False)) : ∃ s, o = .ok a s := by
  cases o with
  | ok b s => exact ⟨s, by rw [h.okD]⟩
  | exc c v s => exact h.excD.elim
  | no => exact h.noD.elim
theorem okC_ofString (s : String) : okC (Str.ofString s) = true := by
  unfold okC
  rw [Array.all_eq_true']
  intro c hc
  have e : (Str.ofString s).cps.toList = s.toList.map Char.toNat := by
    rw [Str.ofString_eq_toList]
  have h2 : c ∈ s.toList.map Char.toNat := by
    rw [← e]
    exact Array.mem_toList_iff.mpr hc
  obtain ⟨x, _, rfl⟩ := List.mem_map.mp h2
  have := x.valid
  simp only [UInt32.isValidChar, Nat.isValidChar] at this
  simp only [decide_eq_true_eq]
  show x.val.toNat < 1114112
  omega
theorem good_int {i : Int} (h : lg i < 1920) : Good (.int i) where
  sh := by
    simp only [PyData.showable, decide_eq_true_eq]
    exact h
  len := Nat.le_trans (PyProof.Rows.int_text_len_1921 (i := i) h) (by decide)
  cps := okC_ofString _
theorem good_bool {b : Bool} : Good (.bool b) := by
  cases b
  · exact ⟨rfl, by decide +kernel, by decide +kernel⟩
  · exact ⟨rfl, by decide +kernel, by decide +kernel⟩
theorem good_none : Good .none := ⟨rfl, by decide +kernel, by decide +kernel⟩
end Mi

set_option Elab.async false
set_option linter.all false
set_option maxRecDepth 100000
set_option maxHeartbeats 0
/-! K65, the data: the defs and their terms. -/
namespace K65
open PySem PySem.Spec PyProof.Rows L2 Mi
def top (i : Nat) : Stmt := PySem.Challenge.pw_bythethread_k65_whole_traces_counted.main.body.getD i (.Pass ⟨0, 0, 0, 0⟩)
/-- is_whole -/
def d0 : Dd := ⟨"is_whole", defArgs (top 1), defBody (top 1), defScope (top 1), ["value"], ["value"], none⟩
def F0 : Fn := ⟨1, 1, [.ret (.and (.isI (.var 0) .int) (.not (.isI (.var 0) .bool)))]⟩
/-- is_integer -/
def d1 : Dd := ⟨"is_integer", defArgs (top 2), defBody (top 2), defScope (top 2), ["value", "low", "high"], ["value", "low", "high"], none⟩
def F1 : Fn := ⟨3, 3, [.ret (.and (.call 0 [(.var 0)]) (.chain .le .le (.var 1) (.var 0) (.var 2)))]⟩
/-- check_colours -/
def d2 : Dd := ⟨"check_colours", defArgs (top 9), defBody (top 9), defScope (top 9), ["value"], ["value"], none⟩
def F2 : Fn := ⟨1, 1, [.ifs (.not (.call 1 [(.var 0), (.cst (.int 1)), (.cst (.int 4))]))
    [.raise 1 (.var 0)]
    []]⟩
/-- many_traces -/
def d3 : Dd := ⟨"many_traces", defArgs (top 13), defBody (top 13), defScope (top 13), ["colours", "rooms"], ["colours", "rooms", "below", "steps", "size"], none⟩
def F3 : Fn := ⟨2, 5, [.expr (.call 2 [(.var 0)]),
  .ifs (.not (.call 1 [(.var 1), (.cst (.int 1)), (.cst (.int 100))]))
    [.raise 2 (.var 1)]
    [],
  .set (.tup [(.name 2), (.name 3)]) (.tup [(.lst [(.cst (.int 0))]), (.bin .sub (.bin .mul (.cst (.int 2)) (.var 0)) (.cst (.int 1)))]),
  .fors (.name 4) (.rng2 (.cst (.int 1)) (.bin .add (.var 1) (.cst (.int 1))))
    [.expr (.meth .append (.var 2) [(.call 4 [(.var 2), (.var 3), (.bin .sub (.var 4) (.cst (.int 1)))])])],
  .ret (.bin .mul (.var 1) (.call 4 [(.var 2), (.bin .add (.var 3) (.cst (.int 1))), (.bin .sub (.var 1) (.cst (.int 1)))]))]⟩
/-- powers -/
def d4 : Dd := ⟨"powers", defArgs (top 14), defBody (top 14), defScope (top 14), ["below", "steps", "size"], ["below", "steps", "size", "counts", "step", "later", "total", "own"], none⟩
def F4 : Fn := ⟨3, 8, [.set (.name 3) (.bin .add (.lst [(.cst (.int 1))]) (.bin .mul (.lst [(.cst (.int 0))]) (.var 2))),
  .fors (.name 4) (.rng1 (.var 1))
    [.set (.name 5) (.lst []),
    .fors (.name 6) (.rng1 (.bin .add (.var 2) (.cst (.int 1))))
      [.expr (.meth .append (.var 5) [(.bin .add (.idx (.var 3) (.var 6)) (.bi .sum [(.comp (.name 7) [7] (.rng2 (.cst (.int 1)) (.bin .add (.var 6) (.cst (.int 1)))) [] (.bin .mul (.idx (.var 3) (.bin .sub (.var 6) (.var 7))) (.idx (.var 0) (.var 7))))]))])],
    .set (.name 3) (.var 5)],
  .ret (.idx (.var 3) (.var 2))]⟩
/-- _law_pot -/
def d5 : Dd := ⟨"_law_pot", defArgs (top 16), defBody (top 16), defScope (top 16), ["script", "place"], ["script", "place", "cell", "own", "small"], none⟩
def F5 : Fn := ⟨2, 5, [.set (.name 2) (.ite (.cmp .lt (.var 1) (.bi .len [(.var 0)])) (.idx (.var 0) (.var 1)) (.bin .add (.bin .add (.bin .mod (.bi .sum [(.slice (.var 0) none (some (.cst (.int 1))))]) (.cst (.int 1000003))) (.bin .mul (.cst (.int 12703)) (.var 1))) (.cst (.int 431)))),
  .set (.name 3) (.bin .mul (.bin .mod (.bi .int [(.bi .abs [(.var 2)])]) (.bin .pow (.bin .pow (.cst (.int 10)) (.cst (.int 60))) (.cst (.int 5)))) (.bi .int [(.cmp .ge (.bi .abs [(.var 2)]) (.bin .pow (.cst (.int 10)) (.cst (.int 18))))])),
  .set (.name 4) (.bin .mod (.bi .int [(.var 2)]) (.cst (.int 2305843009213693951))),
  .ret (.lst [(.var 3), (.bin .mod (.bi .int [(.bin .add (.bin .add (.bin .mul (.var 4) (.cst (.int 100943))) (.bin .mul (.bin .mul (.cst (.int 17609)) (.var 1)) (.var 1))) (.cst (.int 838)))]) (.cst (.int 2305843009213693921))), (.cst (.int 0))])]⟩
/-- _law_take -/
def d6 : Dd := ⟨"_law_take", defArgs (top 17), defBody (top 17), defScope (top 17), ["pot", "upto"], ["pot", "upto", "digit", "prime", "blend"], none⟩
def F6 : Fn := ⟨2, 5, [.ifs (.cmp .gt (.idx (.var 0) (.cst (.int 0))) (.cst (.int 0)))
    [.set (.name 2) (.bin .mod (.bi .int [(.idx (.var 0) (.cst (.int 0)))]) (.var 1)),
    .put (.var 0) (.cst (.int 0)) (.bin .fdiv (.idx (.var 0) (.cst (.int 0))) (.var 1)),
    .ret (.var 2)]
    [],
  .put (.var 0) (.cst (.int 2)) (.bin .add (.idx (.var 0) (.cst (.int 2))) (.cst (.int 1))),
  .set (.name 3) (.idx (.lst [(.cst (.int 2147483647)), (.cst (.int 2147483629)), (.cst (.int 2147483587)), (.cst (.int 2147483579)), (.cst (.int 2147483563))]) (.bin .mod (.bi .int [(.idx (.var 0) (.cst (.int 2)))]) (.cst (.int 5)))),
  .set (.name 4) (.bin .mod (.bi .int [(.bin .pow (.bi .int [(.bin .add (.bin .add (.idx (.var 0) (.cst (.int 1))) (.bin .mul (.bin .mul (.cst (.int 98011)) (.idx (.var 0) (.cst (.int 2)))) (.idx (.var 0) (.cst (.int 2))))) (.cst (.int 638)))]) (.cst (.int 3)))]) (.var 3)),
  .set (.name 4) (.bin .mod (.bi .int [(.bin .mul (.var 4) (.bin .add (.bin .mod (.bi .int [(.var 4)]) (.cst (.int 10259))) (.bin .mul (.cst (.int 122)) (.idx (.var 0) (.cst (.int 2))))))]) (.cst (.int 2305843009213693907))),
  .ret (.bin .mod (.bi .int [(.bin .fdiv (.var 4) (.cst (.int 152)))]) (.var 1))]⟩
/-- _law_of -/
def d7 : Dd := ⟨"_law_of", defArgs (top 18), defBody (top 18), defScope (top 18), ["pot", "some"], ["pot", "some"], none⟩
def F7 : Fn := ⟨2, 2, [.ret (.idx (.var 1) (.call 6 [(.var 0), (.bi .len [(.var 1)])]))]⟩
/-- _law_places -/
def d8 : Dd := ⟨"_law_places", defArgs (top 19), defBody (top 19), defScope (top 19), ["script", "most"], ["script", "most"], none⟩
def F8 : Fn := ⟨2, 2, [.ret (.bi .lrange [(.bi .max2 [(.cst (.int 1)), (.bi .min2 [(.var 1), (.bi .len [(.var 0)])])])])]⟩
/-- _law_steps -/
def d9 : Dd := ⟨"_law_steps", defArgs (top 21), defBody (top 21), defScope (top 21), ["colours"], ["colours", "found", "colour"], none⟩
def F9 : Fn := ⟨1, 3, [.set (.name 1) (.lst []),
  .fors (.name 2) (.rng2 (.cst (.int 1)) (.bin .add (.var 0) (.cst (.int 1))))
    [.expr (.meth .extend (.var 1) [(.lst [(.var 2), (.neg (.var 2))])])],
  .ret (.var 1)]⟩
/-- _law_lots -/
def d10 : Dd := ⟨"_law_lots", defArgs (top 22), defBody (top 22), defScope (top 22), ["colours", "most"], ["colours", "most", "steps", "level", "found", "lap", "later", "lot", "room", "step", "new"], none⟩
def F10 : Fn := ⟨2, 11, [.set (.tup [(.name 2), (.name 3), (.name 4)]) (.tup [(.call 9 [(.var 0)]), (.dic [(.tup [(.tup [])]), (.cst (.bl true))]), (.lst [])]),
  .fors (.name 5) (.rng1 (.var 1))
    [.expr (.meth .append (.var 4) [(.bi .len [(.var 3)])]),
    .set (.name 6) (.dic []),
    .fors (.name 7) (.seq (.var 3))
      [.fors (.name 8) (.seq (.var 7))
        [.fors (.name 9) (.seq (.var 2))
          [.set (.name 10) (.bin .add (.var 8) (.tup [(.var 9)])),
          .ifs (.and (.or (.cmp .eq (.var 8) (.tup [])) (.cmp .ne (.idx (.var 8) (.neg (.cst (.int 1)))) (.neg (.var 9)))) (.cmp .nmem (.var 10) (.var 7)))
            [.put (.var 6) (.bi .tuple [(.bi .sorted [(.bin .add (.var 7) (.tup [(.var 10)]))])]) (.cst (.bl true))]
            []]]],
    .set (.name 3) (.var 6)],
  .ret (.var 4)]⟩
/-- _law_by_formula -/
def d11 : Dd := ⟨"_law_by_formula", defArgs (top 23), defBody (top 23), defScope (top 23), ["colours", "rooms"], ["colours", "rooms", "over", "under", "above", "below", "at"], none⟩
def F11 : Fn := ⟨2, 7, [.set (.tup [(.name 2), (.name 3)]) (.tup [(.bin .mul (.cst (.int 2)) (.var 0)), (.bin .add (.bin .mul (.bin .sub (.bin .mul (.cst (.int 2)) (.var 0)) (.cst (.int 2))) (.var 1)) (.cst (.int 2)))]),
  .set (.tup [(.name 4), (.name 5)]) (.tup [(.cst (.int 1)), (.cst (.int 1))]),
  .fors (.name 6) (.rng1 (.bin .sub (.var 1) (.cst (.int 1))))
    [.set (.tup [(.name 4), (.name 5)]) (.tup [(.bin .mul (.var 4) (.bin .sub (.bin .mul (.bin .sub (.bin .mul (.cst (.int 2)) (.var 0)) (.cst (.int 1))) (.var 1)) (.var 6))), (.bin .mul (.var 5) (.bin .add (.var 6) (.cst (.int 1))))])],
  .ret (.bin .fdiv (.bin .mul (.var 2) (.var 4)) (.bin .mul (.var 3) (.var 5)))]⟩
/-- law -/
def d12 : Dd := ⟨"law", defArgs (top 24), defBody (top 24), defScope (top 24), ["script"], ["script", "colours", "most", "lots", "rooms", "due", "place", "pot", "odd", "caught", "told", "bad"], (some "_law_heard")⟩
def F12 : Fn := ⟨1, 12, [.fors (.tup [(.name 1), (.name 2)]) (.seq (.tup [(.tup [(.cst (.int 1)), (.cst (.int 6))]), (.tup [(.cst (.int 2)), (.cst (.int 5))]), (.tup [(.cst (.int 3)), (.cst (.int 4))]), (.tup [(.cst (.int 4)), (.cst (.int 3))])]))
    [.set (.name 3) (.call 10 [(.var 1), (.var 2)]),
    .fors (.name 4) (.rng2 (.cst (.int 1)) (.bin .add (.var 2) (.cst (.int 1))))
      [.set (.name 5) (.bin .mul (.var 4) (.idx (.var 3) (.bin .sub (.var 4) (.cst (.int 1))))),
      .ifs (.or (.cmp .ne (.bi .repr [(.call 3 [(.var 1), (.var 4)])]) (.bi .repr [(.var 5)])) (.cmp .ne (.idx (.var 3) (.bin .sub (.var 4) (.cst (.int 1)))) (.call 11 [(.var 1), (.var 4)])))
        [.ret (.cst (.bl false))]
        []]],
  .fors (.name 6) (.seq (.call 8 [(.var 0), (.cst (.int 4))]))
    [.set (.name 7) (.call 5 [(.var 0), (.var 6)]),
    .set (.tup [(.name 1), (.name 4)]) (.tup [(.bi .int [(.bin .add (.cst (.int 1)) (.call 6 [(.var 7), (.cst (.int 4))]))]), (.bi .int [(.bin .add (.cst (.int 1)) (.call 6 [(.var 7), (.cst (.int 100))]))])]),
    .ifs (.cmp .ne (.bi .repr [(.call 3 [(.var 1), (.var 4)])]) (.bi .repr [(.bin .mul (.var 4) (.call 11 [(.var 1), (.var 4)]))]))
      [.ret (.cst (.bl false))]
      [],
    .set (.name 8) (.call 7 [(.var 7), (.lst [(.cst (.int 0)), (.cst (.int 101)), (.neg (.cst (.int 1))), (.cst (.bl true)), (.cst .non), (.cst (.str "1"))])]),
    .set (.tup [(.name 9), (.name 10)]) (.heard (.call 3 [(.var 1), (.var 8)])),
    .ifs (.or (.not (.isX (.var 9) 2 3)) (.cmp .ne (.bi .repr [(.val (.var 9) 3)]) (.bi .repr [(.var 8)])))
      [.ret (.cst (.bl false))]
      [],
    .set (.name 11) (.call 7 [(.var 7), (.lst [(.cst (.int 0)), (.cst (.int 5)), (.cst (.bl true)), (.cst .non)])]),
    .set (.tup [(.name 9), (.name 10)]) (.heard (.call 3 [(.var 11), (.var 8)])),
    .ifs (.or (.not (.isX (.var 9) 1 3)) (.cmp .ne (.bi .repr [(.val (.var 9) 3)]) (.bi .repr [(.var 11)])))
      [.ret (.cst (.bl false))]
      []],
  .ret (.cst (.bl true))]⟩
def ds : List Dd := [d0, d1, d2, d3, d4, d5, d6, d7, d8, d9, d10, d11, d12]
def FT : List Fn := [F0, F1, F2, F3, F4, F5, F6, F7, F8, F9, F10, F11, F12]
def c0 : Ct := { N := [], sc := [], fns := [("is_whole", 0), ("is_integer", 1), ("check_colours", 2), ("many_traces", 3), ("powers", 4), ("_law_pot", 5), ("_law_take", 6), ("_law_of", 7), ("_law_places", 8), ("_law_steps", 9), ("_law_lots", 10), ("_law_by_formula", 11), ("law", 12)], exs := [("ThreadError", 0), ("BadColours", 1), ("BadNumber", 2)], cons := [("MOST_COLOURS", (.int 4)), ("MOST_COUNT", (.int 100)), ("PAIR", (.int 2))], nx := 3 }
theorem scs : ∀ d ∈ ds, d.scB = true := List.all_eq_true.mp (by kernel_rfl)
theorem hF : seqE (Dd.fn c0) ds = some FT := by kernel_rfl
theorem bds : ∀ d ∈ ds, d.Bd := by
  intro d hd
  simp only [ds, List.mem_cons, List.not_mem_nil, or_false] at hd
  rcases hd with rfl | rfl | rfl | rfl | rfl | rfl | rfl | rfl | rfl | rfl | rfl | rfl | rfl
  · exact fun _ _ _ _ _ _ us hl => match us, hl with | [_], _ => rfl
  · exact fun _ _ _ _ _ _ us hl => match us, hl with | [_, _, _], _ => rfl
  · exact fun _ _ _ _ _ _ us hl => match us, hl with | [_], _ => rfl
  · exact fun _ _ _ _ _ _ us hl => match us, hl with | [_, _], _ => rfl
  · exact fun _ _ _ _ _ _ us hl => match us, hl with | [_, _, _], _ => rfl
  · exact fun _ _ _ _ _ _ us hl => match us, hl with | [_, _], _ => rfl
  · exact fun _ _ _ _ _ _ us hl => match us, hl with | [_, _], _ => rfl
  · exact fun _ _ _ _ _ _ us hl => match us, hl with | [_, _], _ => rfl
  · exact fun _ _ _ _ _ _ us hl => match us, hl with | [_, _], _ => rfl
  · exact fun _ _ _ _ _ _ us hl => match us, hl with | [_], _ => rfl
  · exact fun _ _ _ _ _ _ us hl => match us, hl with | [_, _], _ => rfl
  · exact fun _ _ _ _ _ _ us hl => match us, hl with | [_, _], _ => rfl
  · exact fun _ _ _ _ _ _ us hl => match us, hl with | [_], _ => rfl
theorem hn : ∀ x i, c0.fns.lookup x = some i → ∃ d, ds[i]? = some d ∧ d.x = x := fns_ok (by kernel_rfl)
end K65

set_option Elab.async false
set_option linter.all false
set_option maxRecDepth 100000
set_option maxHeartbeats 1000000
/-! K65, the plain law: the program's part. -/
namespace K65
open Mi
local macro_rules | `(tactic| fail "go") => `(tactic| first
  | with_reducible refine hi_cst ?_
  | with_reducible refine hi_var (by with_unfolding_all exact rfl) ?_
  | with_reducible refine hi_bin ?_ | with_reducible refine hi_cmp ?_ | with_reducible refine hi_idx ?_
  | with_reducible refine hi_callE ?_ | with_reducible refine hi_bi ?_ | with_reducible refine hi_dcons ?_ | with_reducible refine hi_dnil ?_
  | with_reducible refine hi_tup ?_ | with_reducible refine hi_lst ?_ | with_reducible refine hi_dic ?_ | with_reducible refine hi_neg ?_ | with_reducible refine hi_not ?_
  | with_reducible refine hi_and ?_ | with_reducible refine hi_or ?_ | with_reducible refine hi_ite ?_ | with_reducible refine hi_chain ?_
  | with_reducible refine hi_slice ?_ | with_reducible refine hi_onone ?_ | with_reducible refine hi_osome ?_ | with_reducible refine hi_meth ?_
  | with_reducible refine hi_isI ?_ | with_reducible refine hi_isX ?_ | with_reducible refine hi_val ?_ | with_reducible refine hi_heard ?_
  | with_reducible refine hi_addI ?_ | with_reducible refine hi_subI ?_ | with_reducible refine hi_ltI ?_ | with_reducible refine hi_leI ?_ | with_reducible refine hi_gtI ?_ | with_reducible refine hi_geI ?_ | with_reducible refine hi_eqI ?_ | with_reducible refine hi_neI ?_
  | with_reducible refine Br.mk ?_ | with_reducible refine IsI.mk ?_
  | with_reducible refine hi_ret ?_ | with_reducible refine hi_raise ?_ | with_reducible refine hi_expr ?_ | with_reducible refine hi_ifs ?_ | with_reducible refine hi_nil ?_ | with_reducible refine hi_put ?_
  | with_reducible refine hi_set (by with_unfolding_all exact rfl) ?_ | with_reducible refine hi_setG ?_
  | with_reducible refine PutG.mk (by with_unfolding_all exact rfl) ?_ | with_reducible refine Fits.mk (by with_unfolding_all exact rfl) ?_
  | with_reducible refine hi_rng1 ?_ | with_reducible refine hi_rng2 ?_
  | dsimp only [ct, cf, nt, nf, goOn, retD, List.set_cons_succ, List.set_cons_zero])
abbrev NX : Nat → D → Sto → Prop := fun _ _ _ => False
def isW : D → Bool
  | .int _ => true
  | _ => false
def plainV : D → Bool
  | .int _ => true | .bl _ => true | .non => true | .str _ => true
  | _ => false
theorem s_whole (n : Nat) (v : D) (st : Sto) (h : plainV v = true) : callN FT (n + 1) 0 [v] st = .ok (.bl (isW v)) st := by
  cases v <;> simp [plainV] at h <;> exact tidy_same rfl
def inR (v : D) (lo hi : Int) : Bool := match v with
  | .int i => decide (lo ≤ i) && decide (i ≤ hi)
  | _ => false
theorem tidy_bl {b : Bool} {st : Sto} : tidy st (.ok (.bl b) st) = .ok (.bl b) st := tidy_same rfl
theorem s_integer (n : Nat) (v : D) (lo hi : Int) (st : Sto) (h : plainV v = true) : callN FT (n + 2) 1 [v, .int lo, .int hi] st = .ok (.bl (inR v lo hi)) st := by
  refine call_pure (f := F1) [some v, some (.int lo), some (.int hi)] rfl rfl (by decide) rfl rfl ?_
  unfold F1
  repeat fail "go"
  refine Hi.eqc (s_whole n v st h) ?_
  repeat fail "go"
  match v, h with
  | .non, _ => exact ⟨fun e => (nomatch e), fun _ => ⟨rfl, Pre.refl⟩⟩
  | .bl _, _ => exact ⟨fun e => (nomatch e), fun _ => ⟨rfl, Pre.refl⟩⟩
  | .str _, _ => exact ⟨fun e => (nomatch e), fun _ => ⟨rfl, Pre.refl⟩⟩
  | .int i, _ =>
    refine ⟨fun _ => ?_, fun e => (nomatch e)⟩
    repeat fail "go"
    refine ⟨fun h1 => ?_, fun h1 => ?_⟩
    · repeat fail "go"
      exact ⟨by simp only [inR, h1, Bool.true_and], Pre.refl⟩
    · repeat fail "go"
      exact ⟨by simp only [inR, h1, Bool.false_and], Pre.refl⟩
theorem s_colours (n : Nat) (v : D) (st : Sto) (h : plainV v = true) : callN FT (n + 3) 2 [v] st = if inR v 1 4 then .ok .non st else .exc 1 v st := by
  have e : callN FT (n + 3) 2 [v] st = tidy st (leave (denSs (callN FT (n + 2)) F2.body [some v] st)) := rfl
  rw [e]
  have w := s_integer n v 1 4 st h
  have hv : v.flat = true := by cases v <;> simp [plainV] at h <;> rfl
  simp only [F2, denSs, denS, den, dens, M.bind, M.pure, Out.bind, List.getElem?_cons_zero, w]
  cases inR v 1 4
  · exact tidy_exc hv Pre.refl
  · exact tidy_same (v := .non) rfl

/-! ### powers -/
section
variable (b : Nat → Nat)
/-- the ways to have so many rooms below so many steps -/
def R : Nat → Nat → Nat
  | 0, t => if t = 0 then 1 else 0
  | n + 1, t => R n t + ((List.range t).map fun j => R n (t - (j + 1)) * b (j + 1)).sum
end
def dn (n : Nat) : D := .int (n : Nat)
/-- lists of numbers -/
def LN (f : Nat → Nat) (m : Nat) : O := .lst ((List.range m).map fun i => dn (f i))
theorem LN_get {f : Nat → Nat} {m i : Nat} (h : i < m) : ((List.range m).map fun i => dn (f i))[i]? = some (dn (f i)) := by
  rw [List.getElem?_map, List.getElem?_range h]; rfl
theorem idx_LN {f : Nat → Nat} {m i k : Nat} {st : Sto} (h : st[k]? = some (LN f m)) (hi : i < m) : idxD (.ref k) (.int i) st = .ok (dn (f i)) st := by
  unfold idxD
  simp only [h, LN, List.length_map, List.length_range, place_nat hi, Option.bind_some, LN_get hi]
@[irreducible] def BIG : Nat := 2 ^ 1200
theorem log2_lt {n : Nat} (h : n < BIG) : n.log2 < 1200 := by
  by_cases h0 : n = 0
  · subst h0; decide
  · unfold BIG at h
    exact (Nat.log2_lt h0).mpr h
theorem mul_D {x y : Nat} {st : Sto} (hx : x < BIG) (hy : y < BIG) : binD .mul (dn x) (dn y) st = .ok (dn (x * y)) st := by
  have h1 := log2_lt hx
  have h2 := log2_lt hy
  simp only [binD, dn, Int.natAbs_natCast]
  rw [if_pos (by omega)]
  simp
theorem add_D {x y : Nat} {st : Sto} : binD .add (dn x) (dn y) st = .ok (dn (x + y)) st := by
  simp [binD, dn]
def compE : E := .comp (.name 7) [7] (.rng2 (.cst (.int 1)) (.bin .add (.var 6) (.cst (.int 1)))) [] (.bin .mul (.idx (.var 3) (.bin .sub (.var 6) (.var 7))) (.idx (.var 0) (.var 7)))
def innerS : List S := [.expr (.meth .append (.var 5) [(.bin .add (.idx (.var 3) (.var 6)) (.bi .sum [compE]))])]
def outerS : List S := [.set (.name 5) (.lst []), .fors (.name 6) (.rng1 (.bin .add (.var 2) (.cst (.int 1)))) innerS, .set (.name 3) (.var 5)]
theorem F4_eq : F4 = ⟨3, 8, [.set (.name 3) (.bin .add (.lst [(.cst (.int 1))]) (.bin .mul (.lst [(.cst (.int 0))]) (.var 2))), .fors (.name 4) (.rng1 (.var 1)) outerS, .ret (.idx (.var 3) (.var 2))]⟩ := rfl
theorem sum_map_dn (l : List Nat) : ((l.map fun n => ((n : Nat) : Int)).sum) = ((l.sum : Nat) : Int) := by
  induction l with
  | nil => rfl
  | cons a l ih => simp [ih]
theorem s_comp {Φ : Nat → List D → M D} {p c t m1 m2 : Nat} {f g : Nat → Nat} {st : Sto} {x1 x2 x4 x5 x7 : Option D} (hb : st[p]? = some (LN g m1)) (hc : st[c]? = some (LN f m2)) (ht : t ≤ 1000) (h1 : t < m1) (h2 : t < m2 + 1) (b1 : ∀ i, i < m2 → f i < BIG) (b2 : ∀ i, i < m1 → g i < BIG) :
    den Φ compE [some (.ref p), x1, x2, some (.ref c), x4, x5, some (.int (t : Nat)), x7] st = .ok (.ref st.length) (st ++ [LN (fun j => f (t - (j + 1)) * g (j + 1)) t]) := by
  refine Hi.eq ?_
  have s1 : small 1 = true := by decide
  have s2 : small ((t : Int) + 1) = true := by
    have := small_nat (n := t + 1) (by omega)
    simpa using this
  have n1 : ((t : Int) + 1 - 1).toNat = t := by omega
  unfold compE
  with_reducible refine hi_comp (rngL 1 t) (fun d => match d with | .int o => some (dn (f (t - o.toNat) * g o.toNat)) | _ => none) (t := .rng 1 t) (st1 := st) ?_ (fun i _ => rng_at) ?_ ?_ ?_
  rotate_left
  · rw [rngL_len]; omega
  rotate_left
  rotate_left
  · repeat fail "go"
    exact ⟨_, _, rfl, rfl, s1, s2, by rw [n1], rfl⟩
  · intro x hx
    unfold rngL at hx
    obtain ⟨j, hj, rfl⟩ := List.mem_map.mp hx
    have hj := List.mem_range.mp hj
    have e1 : ((t : Int) - (1 + (j : Int))) = ((t - (j + 1) : Nat) : Int) := by omega
    have e2 : (1 + (j : Int)) = ((j + 1 : Nat) : Int) := by omega
    have e3 : ((1 : Int) + (j : Int)).toNat = j + 1 := by omega
    refine ⟨_, rfl, true, rfl, _, rfl, ?_⟩
    have i1 := idx_LN (i := t - (j + 1)) hc (by omega)
    have i2 := idx_LN (i := j + 1) hb (by omega)
    have i3 := mul_D (st := st) (b1 (t - (j + 1)) (by omega)) (b2 (j + 1) (by omega))
    have h : Hi (den Φ (.bin .mul (.idx (.var 3) (.bin .sub (.var 6) (.var 7))) (.idx (.var 0) (.var 7))) [some (.ref p), x1, x2, some (.ref c), x4, x5, some (dn t), some (.int (1 + (j : Int)))] st) (fun v s => v = dn (f (t - (j + 1)) * g (j + 1)) ∧ s = st) NX := by
      unfold dn
      repeat fail "go"
      rw [e1]
      refine Hi.eqc i1 ?_
      repeat fail "go"
      rw [e2]
      refine Hi.eqc i2 ?_
      refine Hi.eqc i3 ⟨rfl, rfl⟩
    rw [e3]
    exact h.eq
  · have e : (rngL 1 t).filterMap (fun d => match d with | .int o => some (dn (f (t - o.toNat) * g o.toNat)) | _ => none) = (List.range t).map fun j => dn (f (t - (j + 1)) * g (j + 1)) := by
      unfold rngL
      rw [List.filterMap_map]
      have q : (((fun d => match d with | D.int o => some (dn (f (t - o.toNat) * g o.toNat)) | _ => none) ∘ fun (i : Nat) => D.int (1 + (i : Int))) : Nat → Option D) = fun j => some (dn (f (t - (j + 1)) * g (j + 1))) := by
        funext j
        have : ((1 : Int) + (j : Int)).toNat = j + 1 := by omega
        simp only [Function.comp_apply, this]
      rw [q]
      simp [List.filterMap_eq_map']
    rw [e]
    exact ⟨rfl, rfl⟩
theorem sum_LN {f : Nat → Nat} {m k : Nat} {st : Sto} (h : st[k]? = some (LN f m)) : biD .sum [.ref k] st = .ok (dn ((List.range m).map f).sum) st := by
  have e : LN f m = .lst ((((List.range m).map f).map fun n => ((n : Nat) : Int)).map D.int) := by
    unfold LN
    simp [dn]
  rw [e] at h
  rw [sum_ints h, sum_map_dn]
  rfl
theorem LN_snoc {f : Nat → Nat} {m : Nat} : (O.lst (((List.range m).map fun i => dn (f i)) ++ [dn (f m)])) = LN f (m + 1) := by
  unfold LN
  rw [List.range_succ, List.map_append]
  rfl
section
variable (b : Nat → Nat)
theorem s_powers {n steps size p m1 : Nat} {st : Sto} (hb : st[p]? = some (LN b m1)) (hs : size < m1) (hz : size ≤ 1000) (hst : steps ≤ 100) (b1 : ∀ n i, n ≤ steps → i ≤ size → R b n i < BIG) (b2 : ∀ i, i < m1 → b i < BIG) :
    callN FT (n + 1) 4 [.ref p, dn steps, dn size] st = .ok (dn (R b steps size)) st := by
  refine call_pure (f := F4) [some (.ref p), some (dn steps), some (dn size), none, none, none, none, none] rfl rfl (by decide) rfl rfl ?_
  rw [F4_eq]
  have hp := get_lt hb
  have hm : (List.replicate size [dn 0]).flatten = (List.range size).map fun i => dn (R b 0 (i + 1)) := by
    have : ∀ k, (List.replicate k [dn 0]).flatten = List.replicate k (dn 0) := by
      intro k
      induction k with
      | zero => rfl
      | succ k ih => rw [List.replicate_succ, List.flatten_cons, ih]; rfl
    rw [this]
    refine (List.eq_replicate_iff.mpr ⟨by simp, ?_⟩).symm
    intro x hx
    obtain ⟨i, _, rfl⟩ := List.mem_map.mp hx
    simp [R]
  have hz0 : small (dn size |> fun _ => (size : Int)) = true := small_nat (by omega)
  repeat fail "go"
  repeat fail "go"
  repeat fail "go"
  refine hi_mulL (xs := [dn 0]) (by simp [dn]) hz0 (by simp; omega) ?_
  rw [show ((size : Int).toNat) = size from Int.toNat_natCast size, hm]
  repeat fail "go"
  refine hi_addL (xs := [dn 1]) (ys := (List.range size).map fun i => dn (R b 0 (i + 1))) (by simp [dn]) (by simp [dn]) (by simp; omega) ?_
  have e5 : O.lst ([dn 1] ++ (List.range size).map fun i => dn (R b 0 (i + 1))) = LN (R b 0) (size + 1) := by
    unfold LN
    rw [List.range_succ_eq_map, List.map_cons, List.map_map]
    rfl
  rw [e5]
  have e6 : (st ++ [O.lst [D.int 1]] ++ [O.lst [D.int 0]] ++ [O.lst ((List.range size).map fun i => dn (R b 0 (i + 1)))] ++ [LN (R b 0) (size + 1)]) = (st ++ [O.lst [dn 1], .lst [dn 0], .lst ((List.range size).map fun i => dn (R b 0 (i + 1))), LN (R b 0) (size + 1)]) := by simp [dn]
  have e7 : (st ++ [O.lst [D.int 1]] ++ [O.lst [D.int 0]] ++ [O.lst ((List.range size).map fun i => dn (R b 0 (i + 1)))]).length = st.length + 3 := by simp
  rw [e6, e7]
  generalize hg : (st ++ [O.lst [dn 1], .lst [dn 0], .lst ((List.range size).map fun i => dn (R b 0 (i + 1))), LN (R b 0) (size + 1)]) = st1
  have p1 : Pre st st1 := ⟨_, hg.symm⟩
  have c1 : st1[st.length + 3]? = some (LN (R b 0) (size + 1)) := by subst hg; simp
  with_reducible refine hi_for (t := .rng 0 steps) (st1 := st1) (rngL 0 steps) (fun i env s => ∃ c x4 x5 x6 x7, env = [some (.ref p), some (dn steps), some (dn size), some (.ref c), x4, x5, x6, x7] ∧ Pre st s ∧ s[c]? = some (LN (R b i) (size + 1)) ∧ st.length ≤ c) ?_ (fun _ _ _ _ _ => rng_at) ?_ ?_ ?_ ?_
  · have := small_nat (n := steps) (by omega)
    repeat fail "go"
    exact ⟨_, rfl, this, rfl, rfl⟩
  · rw [rngL_len]; omega
  rotate_left
  · exact ⟨st.length + 3, none, none, none, none, rfl, p1, c1, by omega⟩
  rotate_left
  · rintro i x env s hx ⟨c, x4, x5, x6, x7, rfl, hpre, hc, hlc⟩
    rw [rngL_get] at hx
    split at hx <;> rename_i hi
    case isFalse => exact nomatch hx
    cases hx
    refine ⟨_, rfl, ?_⟩
    unfold outerS
    repeat fail "go"
    have hl1 := hpre.le
    have hcs := get_lt hc
    have hbs := hpre.get hb
    with_reducible refine hi_for (t := .rng 0 (size + 1)) (st1 := s ++ [O.lst []]) (rngL 0 (size + 1)) (fun t env s' => ∃ x6 x7, env = [some (.ref p), some (dn steps), some (dn size), some (.ref c), some (.int (0 + (i : Int))), some (.ref s.length), x6, x7] ∧ Pre s s' ∧ s'[s.length]? = some (LN (R b (i + 1)) t)) ?_ (fun _ _ _ _ _ => rng_at) ?_ ?_ ?_ ?_
    · have := small_nat (n := size + 1) (by omega)
      have n1 : ((size : Int) + 1).toNat = size + 1 := by omega
      simp only [Int.natCast_add, Int.natCast_one] at this
      unfold dn
      repeat fail "go"
      exact ⟨_, rfl, this, by rw [n1], rfl⟩
    · rw [rngL_len]; omega
    rotate_left
    · exact ⟨x6, x7, rfl, Pre.refl.app, by simp [LN]⟩
    rotate_left
    · rintro t y env s' hy ⟨y6, y7, rfl, hpre', hl⟩
      rw [rngL_get] at hy
      split at hy <;> rename_i ht
      case isFalse => exact nomatch hy
      cases hy
      refine ⟨_, rfl, ?_⟩
      unfold innerS
      have e0 : (0 + (t : Int)) = (t : Int) := by omega
      rw [e0]
      repeat fail "go"
      refine ⟨meTy_L hl rfl, ?_⟩
      repeat fail "go"
      have hc' := hpre'.get hc
      have hb' := hpre'.get hbs
      refine Hi.eqc (idx_LN hc' ht) ?_
      repeat fail "go"
      have hcomp := s_comp (Φ := callN FT n) (x1 := some (dn steps)) (x2 := some (dn size)) (x4 := some (.int (0 + (i : Int)))) (x5 := some (.ref s.length)) (x7 := y7) (t := t) hb' hc' (by omega) (by omega) (by omega) (fun j hj => b1 i j (by omega) (by omega)) b2
      with_reducible refine Hi.eqc hcomp ?_
      repeat fail "go"
      refine Hi.eqc (sum_LN get_new) ?_
      refine Hi.eqc add_D ?_
      repeat fail "go"
      have hl2 : (s' ++ [LN (fun j => R b i (t - (j + 1)) * b (j + 1)) t])[s.length]? = some (O.lst ((List.range t).map fun j => dn (R b (i + 1) j))) := get_app hl
      with_reducible refine hi_append hl2 ?_ ?_
      · rw [List.length_map, List.length_range]; omega
      refine hi_nil ⟨_, _, rfl, ?_, ?_⟩
      · exact (hpre'.app).set (Nat.le_refl _)
      · have hR : R b i t + ((List.range t).map fun j => R b i (t - (j + 1)) * b (j + 1)).sum = R b (i + 1) t := rfl
        rw [get_set (get_app hl), hR, LN_snoc]
    · rintro env s' ⟨y6, y7, rfl, hpre', hl⟩
      rw [rngL_len] at hl
      repeat fail "go"
      refine ⟨_, _, _, _, _, rfl, ?_, hl, hpre.le⟩
      obtain ⟨g1, rfl⟩ := hpre
      obtain ⟨g2, rfl⟩ := hpre'
      exact ⟨g1 ++ g2, by simp⟩
  · rintro env s ⟨c, x4, x5, x6, x7, rfl, hpre, hc, hlc⟩
    rw [rngL_len] at hc
    repeat fail "go"
    refine Hi.eqc (idx_LN hc (Nat.lt_succ_self _)) ?_
    exact ⟨rfl, hpre⟩
end
end K65

set_option Elab.async false
set_option linter.all false
set_option maxRecDepth 100000
set_option maxHeartbeats 1000000
/-! K65, the numbers. -/
namespace K65
open Mi
def ffac (m : Nat) : Nat → Nat
  | 0 => 1
  | r + 1 => ffac m r * (m - r)
def fac : Nat → Nat
  | 0 => 1
  | r + 1 => fac r * (r + 1)
/-- the known formula for the rooms below one step -/
def bl (c : Nat) : List Nat := (List.range 100).map fun j => ffac ((2 * c - 1) * (j + 1)) j / fac j / (j + 1)
def bb (c : Nat) : Nat → Nat
  | 0 => 0
  | j + 1 => (bl c).getD j 0
def form (c s : Nat) : Nat := 2 * c * ffac ((2 * c - 1) * (s + 1)) s / (((2 * c - 2) * (s + 1) + 2) * fac s)
def dot : List Nat → List Nat → Nat
  | x :: xs, y :: ys => x * y + dot xs ys
  | _, _ => 0
def goF (A : List Nat) : List Nat → List Nat → List Nat
  | _, [] => []
  | rev, c :: cs => dot (c :: rev) A :: goF A (c :: rev) cs
def FF (A : List Nat) : Nat → List Nat
  | 0 => 1 :: List.replicate 99 0
  | n + 1 => goF A [] (FF A n)
/-- f t, .., f 0 -/
def rv (f : Nat → Nat) : Nat → List Nat
  | 0 => []
  | t + 1 => f t :: rv f t
theorem dot_rv (f : Nat → Nat) : ∀ (t : Nat) (A : List Nat), dot (rv f t) A = ((List.range t).map fun j => f (t - (j + 1)) * A.getD j 0).sum
  | 0, A => by cases A <;> rfl
  | t + 1, [] => by
    have e : ∀ n : Nat, ((List.range n).map fun j => f (t + 1 - (j + 1)) * ([] : List Nat).getD j 0).sum = 0 := by
      intro n
      induction n with
      | zero => rfl
      | succ n ih => rw [List.range_succ, List.map_append, List.sum_append, ih]; simp
    rw [e]
    rfl
  | t + 1, y :: ys => by
    show f t * y + dot (rv f t) ys = _
    rw [dot_rv f t ys, List.range_succ_eq_map, List.map_cons, List.map_map, List.sum_cons]
    have h1 : f (t + 1 - (0 + 1)) * (y :: ys).getD 0 0 = f t * y := by simp
    rw [h1]
    congr 1
    congr 1
    refine List.map_congr_left fun j _ => ?_
    have : t + 1 - (j + 1 + 1) = t - (j + 1) := by omega
    simp [Function.comp, this]
theorem goF_eq (A : List Nat) (f : Nat → Nat) : ∀ (n t : Nat), goF A (rv f t) ((List.range n).map fun i => f (t + i)) = (List.range n).map fun i => dot (rv f (t + i + 1)) A
  | 0, t => rfl
  | n + 1, t => by
    rw [List.range_succ_eq_map, List.map_cons, List.map_map, List.map_cons, List.map_map]
    show dot (f (t + 0) :: rv f t) A :: goF A (f (t + 0) :: rv f t) _ = _
    have e : ((fun i => f (t + i)) ∘ Nat.succ) = fun i => f (t + 1 + i) := by
      funext i
      simp only [Function.comp_apply]
      congr 1
      omega
    have e2 : ((fun i => dot (rv f (t + i + 1)) A) ∘ Nat.succ) = fun i => dot (rv f (t + 1 + i + 1)) A := by
      funext i
      simp only [Function.comp_apply]
      congr 2
      omega
    rw [e, e2]
    have := goF_eq A f n (t + 1)
    rw [show rv f (t + 1) = f (t + 0) :: rv f t from rfl] at this
    rw [this]
    rfl
theorem FF_eq (c : Nat) : ∀ n, FF (1 :: bl c) n = (List.range 100).map (R (bb c) n)
  | 0 => by
    show 1 :: List.replicate 99 0 = _
    rw [List.range_succ_eq_map, List.map_cons, List.map_map]
    rfl
  | n + 1 => by
    show goF (1 :: bl c) [] (FF (1 :: bl c) n) = _
    rw [FF_eq c n]
    have := goF_eq (1 :: bl c) (R (bb c) n) 100 0
    simp only [Nat.zero_add] at this
    rw [show rv (R (bb c) n) 0 = [] from rfl] at this
    refine Eq.trans this (List.map_congr_left fun t _ => ?_)
    rw [dot_rv, List.range_succ_eq_map, List.map_cons, List.map_map, List.sum_cons]
    show _ = R (bb c) n t + _
    have e0 : R (bb c) n (t + 1 - (0 + 1)) * (1 :: bl c).getD 0 0 = R (bb c) n t := by simp
    rw [e0]
    congr 1
    congr 1
    refine List.map_congr_left fun j _ => ?_
    simp only [Function.comp_apply]
    have : t + 1 - (j.succ + 1) = t - (j + 1) := by omega
    rw [this]
    rfl
def check (c : Nat) : Bool := decide (FF (1 :: bl c) (2 * c - 1) = bl c) && decide (FF (1 :: bl c) (2 * c) = (List.range 100).map (form c)) && (List.range (2 * c + 1)).all (fun n => (FF (1 :: bl c) n).all fun x => Nat.blt x (2 ^ 1200)) && (bl c).all fun x => Nat.blt x (2 ^ 1200)
theorem check1 : check 1 = true := by decide +kernel
theorem check2 : check 2 = true := by decide +kernel
theorem check3 : check 3 = true := by decide +kernel
theorem check4 : check 4 = true := by decide +kernel
theorem check_all {c : Nat} (h1 : 1 ≤ c) (h4 : c ≤ 4) : check c = true := by
  have : c = 1 ∨ c = 2 ∨ c = 3 ∨ c = 4 := by omega
  rcases this with rfl | rfl | rfl | rfl
  · exact check1
  · exact check2
  · exact check3
  · exact check4
theorem at_range {f : Nat → Nat} {n i : Nat} (h : i < n) : ((List.range n).map f)[i]? = some (f i) := by
  rw [List.getElem?_map, List.getElem?_range h]; rfl
theorem bb_eq {c s : Nat} (h1 : 1 ≤ c) (h4 : c ≤ 4) (hs : s < 100) : bb c (s + 1) = R (bb c) (2 * c - 1) s := by
  have h := check_all h1 h4
  unfold check at h
  simp only [Bool.and_eq_true, decide_eq_true_eq] at h
  have e := h.1.1.1
  rw [FF_eq] at e
  show (bl c).getD s 0 = _
  rw [← e, List.getD_eq_getElem?_getD, at_range hs]
  rfl
theorem R_form {c s : Nat} (h1 : 1 ≤ c) (h4 : c ≤ 4) (hs : s < 100) : R (bb c) (2 * c) s = form c s := by
  have h := check_all h1 h4
  unfold check at h
  simp only [Bool.and_eq_true, decide_eq_true_eq] at h
  have e := h.1.1.2
  rw [FF_eq] at e
  have e1 := congrArg (fun l => l[s]?) e
  simp only [at_range hs] at e1
  exact Option.some.inj e1
theorem R_lt {c n s : Nat} (h1 : 1 ≤ c) (h4 : c ≤ 4) (hn : n ≤ 2 * c) (hs : s < 100) : R (bb c) n s < BIG := by
  have h := check_all h1 h4
  unfold check at h
  simp only [Bool.and_eq_true] at h
  have e := h.1.2
  have e := List.all_eq_true.mp e n (List.mem_range.mpr (by omega))
  rw [FF_eq] at e
  have e := List.all_eq_true.mp e (R (bb c) n s) (List.mem_map.mpr ⟨s, List.mem_range.mpr hs, rfl⟩)
  unfold BIG
  exact Nat.blt_eq.mp e
theorem bb_lt {c i : Nat} (h1 : 1 ≤ c) (h4 : c ≤ 4) (hi : i ≤ 100) : bb c i < BIG := by
  cases i with
  | zero => unfold BIG; exact Nat.pow_pos (by decide)
  | succ i =>
    rw [bb_eq h1 h4 (by omega)]
    exact R_lt h1 h4 (by omega) (by omega)
end K65

set_option Elab.async false
set_option linter.all false
set_option maxRecDepth 100000
set_option maxHeartbeats 1000000
/-! K65: many_traces, the law's formula. -/
namespace K65
open Mi
local macro_rules | `(tactic| fail "go") => `(tactic| first
  | with_reducible refine hi_cst ?_
  | with_reducible refine hi_var (by with_unfolding_all exact rfl) ?_
  | with_reducible refine hi_bin ?_ | with_reducible refine hi_cmp ?_ | with_reducible refine hi_idx ?_
  | with_reducible refine hi_callE ?_ | with_reducible refine hi_bi ?_ | with_reducible refine hi_dcons ?_ | with_reducible refine hi_dnil ?_
  | with_reducible refine hi_tup ?_ | with_reducible refine hi_lst ?_ | with_reducible refine hi_dic ?_ | with_reducible refine hi_neg ?_ | with_reducible refine hi_not ?_
  | with_reducible refine hi_and ?_ | with_reducible refine hi_or ?_ | with_reducible refine hi_ite ?_ | with_reducible refine hi_chain ?_
  | with_reducible refine hi_slice ?_ | with_reducible refine hi_onone ?_ | with_reducible refine hi_osome ?_ | with_reducible refine hi_meth ?_
  | with_reducible refine hi_isI ?_ | with_reducible refine hi_isX ?_ | with_reducible refine hi_val ?_ | with_reducible refine hi_heard ?_
  | with_reducible refine hi_addI ?_ | with_reducible refine hi_subI ?_ | with_reducible refine hi_ltI ?_ | with_reducible refine hi_leI ?_ | with_reducible refine hi_gtI ?_ | with_reducible refine hi_geI ?_ | with_reducible refine hi_eqI ?_ | with_reducible refine hi_neI ?_
  | with_reducible refine Br.mk ?_ | with_reducible refine IsI.mk ?_
  | with_reducible refine hi_ret ?_ | with_reducible refine hi_raise ?_ | with_reducible refine hi_expr ?_ | with_reducible refine hi_ifs ?_ | with_reducible refine hi_nil ?_ | with_reducible refine hi_put ?_
  | with_reducible refine hi_set (by with_unfolding_all exact rfl) ?_ | with_reducible refine hi_setG ?_
  | with_reducible refine PutG.mk (by with_unfolding_all exact rfl) ?_ | with_reducible refine Fits.mk (by with_unfolding_all exact rfl) ?_
  | with_reducible refine hi_rng1 ?_ | with_reducible refine hi_rng2 ?_
  | dsimp only [ct, cf, nt, nf, goOn, retD, List.set_cons_succ, List.set_cons_zero])
theorem plain_flat {v : D} (h : plainV v = true) : v.flat = true := by cases v <;> simp [plainV] at h <;> rfl
def manyS : List S := [.expr (.meth .append (.var 2) [(.call 4 [(.var 2), (.var 3), (.bin .sub (.var 4) (.cst (.int 1)))])])]
def F3' : Fn := ⟨2, 5, [.expr (.call 2 [(.var 0)]),
  .ifs (.not (.call 1 [(.var 1), (.cst (.int 1)), (.cst (.int 100))])) [.raise 2 (.var 1)] [],
  .set (.tup [(.name 2), (.name 3)]) (.tup [(.lst [(.cst (.int 0))]), (.bin .sub (.bin .mul (.cst (.int 2)) (.var 0)) (.cst (.int 1)))]),
  .fors (.name 4) (.rng2 (.cst (.int 1)) (.bin .add (.var 1) (.cst (.int 1)))) manyS,
  .ret (.bin .mul (.var 1) (.call 4 [(.var 2), (.bin .add (.var 3) (.cst (.int 1))), (.bin .sub (.var 1) (.cst (.int 1)))]))]⟩
theorem s_many_badc (n : Nat) (v w : D) (st : Sto) (h : plainV v = true) (hb : inR v 1 4 = false) (hw : w.flat = true) : callN FT (n + 4) 3 [v, w] st = .exc 1 v st := by
  refine call_exc (f := F3') [some v, some w, none, none, none] rfl rfl (by decide) (plain_flat h) rfl ?_
  unfold F3'
  repeat fail "go"
  rw [s_colours n v st h, hb]
  exact Hi.excI ⟨rfl, rfl, Pre.refl⟩
theorem s_many_badn (n : Nat) (v w : D) (st : Sto) (h : plainV v = true) (hb : inR v 1 4 = true) (hw : plainV w = true) (hr : inR w 1 100 = false) : callN FT (n + 4) 3 [v, w] st = .exc 2 w st := by
  refine call_exc (f := F3') [some v, some w, none, none, none] rfl rfl (by decide) (plain_flat hw) rfl ?_
  unfold F3'
  repeat fail "go"
  rw [s_colours n v st h, hb]
  refine Hi.eqc rfl ?_
  repeat fail "go"
  refine Hi.eqc (s_integer (n + 1) w 1 100 st hw) ?_
  rw [hr]
  repeat fail "go"
  exact ⟨rfl, rfl, Pre.refl⟩
theorem mul_D' {x y : Nat} {st : Sto} (hx : x < 2 ^ 200) (hy : y < BIG) : binD .mul (.int (x : Nat)) (.int (y : Nat)) st = .ok (.int ((x * y : Nat) : Int)) st := by
  refine mul_D (Nat.lt_of_lt_of_le hx ?_) hy
  unfold BIG
  exact Nat.pow_le_pow_right (by decide) (by decide)
theorem s_many (n c r : Nat) (st : Sto) (h1 : 1 ≤ c) (h4 : c ≤ 4) (hr1 : 1 ≤ r) (hr2 : r ≤ 100) : callN FT (n + 4) 3 [.int (c : Nat), .int (r : Nat)] st = .ok (.int ((r * form c (r - 1) : Nat) : Int)) st := by
  have f1 : inR (.int (c : Nat)) 1 4 = true := by simp [inR]; omega
  have f2 : inR (.int (r : Nat)) 1 100 = true := by simp [inR]; omega
  refine call_pure (f := F3') [some (.int (c : Nat)), some (.int (r : Nat)), none, none, none] rfl rfl (by decide) rfl rfl ?_
  unfold F3'
  repeat fail "go"
  rw [s_colours n _ st rfl, f1]
  refine Hi.eqc rfl ?_
  repeat fail "go"
  refine Hi.eqc (s_integer (n + 1) _ 1 100 st rfl) ?_
  rw [f2]
  repeat fail "go"
  refine Hi.eqc (mul_D' (x := 2) (y := c) (by decide) ?_) ?_
  · refine Nat.lt_of_le_of_lt h4 (Nat.lt_of_lt_of_le (by decide : 4 < 2 ^ 200) ?_)
    unfold BIG
    exact Nat.pow_le_pow_right (by decide) (by decide)
  repeat fail "go"
  have e1 : ((2 * c : Nat) : Int) - 1 = ((2 * c - 1 : Nat) : Int) := by omega
  rw [e1]
  with_reducible refine hi_for (t := .rng 1 r) (st1 := st ++ [O.lst [D.int 0]]) (rngL 1 r) (fun i env s => ∃ x4, env = [some (.int (c : Nat)), some (.int (r : Nat)), some (.ref st.length), some (.int ((2 * c - 1 : Nat) : Int)), x4] ∧ Pre st s ∧ s[st.length]? = some (LN (bb c) (i + 1))) ?_ (fun _ _ _ _ _ => rng_at) ?_ ?_ ?_ ?_
  · have s1 : small 1 = true := by decide
    have s2 : small ((r : Int) + 1) = true := by
      have := small_nat (n := r + 1) (by omega)
      simpa using this
    have n1 : ((r : Int) + 1 - 1).toNat = r := by omega
    repeat fail "go"
    exact ⟨_, _, rfl, rfl, s1, s2, by rw [n1], rfl⟩
  · rw [rngL_len]; omega
  rotate_left
  · exact ⟨none, rfl, Pre.refl.app, by simp [LN, bb, dn]⟩
  rotate_left
  · rintro i x env s hx ⟨x4, rfl, hpre, hl⟩
    rw [rngL_get] at hx
    split at hx <;> rename_i hi
    case isFalse => exact nomatch hx
    cases hx
    refine ⟨_, rfl, ?_⟩
    unfold manyS
    have e2 : (1 : Int) + (i : Int) - 1 = (i : Nat) := by omega
    repeat fail "go"
    refine ⟨meTy_L hl rfl, ?_⟩
    repeat fail "go"
    rw [e2]
    have hp := s_powers (bb c) (n := n + 2) (steps := 2 * c - 1) (size := i) hl (Nat.lt_succ_self _) (by omega) (by omega) (fun m j hm hj => R_lt h1 h4 (by omega) (by omega)) (fun j hj => bb_lt h1 h4 (by omega))
    unfold dn at hp
    with_reducible refine Hi.eqc hp ?_
    repeat fail "go"
    have hl2 : s[st.length]? = some (O.lst ((List.range (i + 1)).map fun j => dn (bb c j))) := hl
    with_reducible refine hi_append hl2 ?_ ?_
    · rw [List.length_map, List.length_range]; omega
    refine hi_nil ⟨_, rfl, hpre.set (Nat.le_refl _), ?_⟩
    rw [get_set hl2]
    have e3 : D.int ((R (bb c) (2 * c - 1) i : Nat) : Int) = dn (bb c (i + 1)) := by rw [bb_eq h1 h4 (by omega)]; rfl
    rw [e3, LN_snoc]
  · rintro env s ⟨x4, rfl, hpre, hl⟩
    rw [rngL_len] at hl
    repeat fail "go"
    have e2 : (r : Int) - 1 = ((r - 1 : Nat) : Int) := by omega
    have e3 : ((2 * c - 1 : Nat) : Int) + 1 = ((2 * c : Nat) : Int) := by omega
    rw [e2, e3]
    have hp := s_powers (bb c) (n := n + 2) (steps := 2 * c) (size := r - 1) hl (by omega) (by omega) (by omega) (fun m j hm hj => R_lt h1 h4 (by omega) (by omega)) (fun j hj => bb_lt h1 h4 (by omega))
    unfold dn at hp
    with_reducible refine Hi.eqc hp ?_
    refine Hi.eqc (mul_D' (x := r) (Nat.lt_of_le_of_lt hr2 (by decide)) (R_lt h1 h4 (Nat.le_refl _) (by omega))) ?_
    rw [R_form h1 h4 (by omega)]
    exact ⟨rfl, hpre⟩
end K65

/-! K65, the law's own growing, in plain lists. -/
set_option maxRecDepth 100000
namespace K65
abbrev Lot := List (List Int)
def ltI : List Int → List Int → Bool
  | [], [] => false
  | [], _ :: _ => true
  | _ :: _, [] => false
  | x :: xs, y :: ys => if x = y then ltI xs ys else decide (x < y)
def insI (y : List Int) : Lot → Lot
  | [] => [y]
  | z :: zs => if ltI y z then y :: z :: zs else z :: insI y zs
def srtI (xs : Lot) : Lot := xs.foldl (fun acc y => insI y acc) []
def eqI : List Int → List Int → Bool
  | [], [] => true
  | x :: xs, y :: ys => decide (x = y) && eqI xs ys
  | _, _ => false
def eqL : Lot → Lot → Bool
  | [], [] => true
  | x :: xs, y :: ys => eqI x y && eqL xs ys
  | _, _ => false
def memI (x : List Int) : Lot → Bool
  | [] => false
  | y :: ys => eqI y x || memI x ys
def insU (k : Lot) : List Lot → List Lot
  | [] => [k]
  | x :: r => bif eqL x k then x :: r else x :: insU k r
def stepsI (c : Nat) : List Int := (List.range c).flatMap fun (j : Nat) => [1 + (j : Int), -(1 + (j : Int))]
def okS (lot : Lot) (room : List Int) (s : Int) : Bool := (room.isEmpty || !decide (room.getLast? = some (-s))) && !memI (room ++ [s]) lot
def g3 (lot : Lot) (room : List Int) (later : List Lot) (s : Int) : List Lot := bif okS lot room s then insU (srtI (lot ++ [room ++ [s]])) later else later
def g2 (c : Nat) (lot : Lot) (later : List Lot) (room : List Int) : List Lot := (stepsI c).foldl (g3 lot room) later
def g1 (c : Nat) (later : List Lot) (lot : Lot) : List Lot := lot.foldl (g2 c lot) later
def grow (c : Nat) (level : List Lot) : List Lot := level.foldl (g1 c) []
def lv (c : Nat) : Nat → List Lot
  | 0 => [[[]]]
  | n + 1 => grow c (lv c n)
theorem cnt1 : (List.range 6).map (fun n => (lv 1 n).length) = [1, 2, 3, 4, 5, 6] := by decide +kernel
theorem cnt3 : (List.range 4).map (fun n => (lv 3 n).length) = [1, 6, 45, 380] := by decide +kernel
theorem cnt4 : (List.range 3).map (fun n => (lv 4 n).length) = [1, 8, 84] := by decide +kernel
theorem cnt2 : (List.range 5).map (fun n => (lv 2 n).length) = [1, 4, 18, 88, 455] := by decide +kernel
end K65

set_option Elab.async false
set_option linter.all false
set_option maxRecDepth 100000
set_option maxHeartbeats 1000000
/-! K65, the law's own growing: what the terms do. -/
namespace K65
open Mi
local macro_rules | `(tactic| fail "go") => `(tactic| first
  | with_reducible refine hi_cst ?_
  | with_reducible refine hi_var (by with_unfolding_all exact rfl) ?_
  | with_reducible refine hi_bin ?_ | with_reducible refine hi_cmp ?_ | with_reducible refine hi_idx ?_
  | with_reducible refine hi_callE ?_ | with_reducible refine hi_bi ?_ | with_reducible refine hi_dcons ?_ | with_reducible refine hi_dnil ?_
  | with_reducible refine hi_tup ?_ | with_reducible refine hi_lst ?_ | with_reducible refine hi_dic ?_ | with_reducible refine hi_neg ?_ | with_reducible refine hi_not ?_
  | with_reducible refine hi_and ?_ | with_reducible refine hi_or ?_ | with_reducible refine hi_ite ?_ | with_reducible refine hi_chain ?_
  | with_reducible refine hi_slice ?_ | with_reducible refine hi_onone ?_ | with_reducible refine hi_osome ?_ | with_reducible refine hi_meth ?_
  | with_reducible refine hi_isI ?_ | with_reducible refine hi_isX ?_ | with_reducible refine hi_val ?_ | with_reducible refine hi_heard ?_
  | with_reducible refine hi_addI ?_ | with_reducible refine hi_subI ?_ | with_reducible refine hi_ltI ?_ | with_reducible refine hi_leI ?_ | with_reducible refine hi_gtI ?_ | with_reducible refine hi_geI ?_ | with_reducible refine hi_eqI ?_ | with_reducible refine hi_neI ?_
  | with_reducible refine Br.mk ?_ | with_reducible refine IsI.mk ?_
  | with_reducible refine hi_ret ?_ | with_reducible refine hi_raise ?_ | with_reducible refine hi_expr ?_ | with_reducible refine hi_ifs ?_ | with_reducible refine hi_nil ?_ | with_reducible refine hi_put ?_
  | with_reducible refine hi_set (by with_unfolding_all exact rfl) ?_ | with_reducible refine hi_setG ?_
  | with_reducible refine PutG.mk (by with_unfolding_all exact rfl) ?_ | with_reducible refine Fits.mk (by with_unfolding_all exact rfl) ?_
  | with_reducible refine hi_intI ?_ | with_reducible refine hi_intB ?_ | with_reducible refine hi_absI ?_ | with_reducible refine hi_lenT ?_ | with_reducible refine hi_lenF ?_ | with_reducible refine hi_sliceT ?_ | with_reducible refine hi_max ?_ | with_reducible refine hi_min ?_
  | with_reducible refine hi_rng1 ?_ | with_reducible refine hi_rng2 ?_
  | dsimp only [ct, cf, nt, nf, goOn, retD, List.set_cons_succ, List.set_cons_zero])
def rmD (r : List Int) : D := .tup (r.map D.int)
def loD (l : Lot) : D := .tup (l.map rmD)
/-! ### data of them -/
theorem snap_int {st : Sto} {n : Nat} {i : Int} : snap st (n + 1) (.int i) = some (.int i) := rfl
theorem snap_tup {st : Sto} {n : Nat} {xs : List D} : snap st (n + 1) (.tup xs) = (seqOpt (snap st n) xs).map .tuple := rfl
theorem snaps_int {st : Sto} {n : Nat} : ∀ r : List Int, seqOpt (snap st (n + 1)) (r.map D.int) = some (r.map PySem.PyData.int)
  | [] => rfl
  | x :: r => by
    rw [List.map_cons, seqOpt, snaps_int r, snap_int]
    rfl
theorem snap_rm {st : Sto} {n : Nat} {r : List Int} : snap st (n + 2) (rmD r) = some (.tuple (r.map PySem.PyData.int)) := by
  unfold rmD
  rw [snap_tup, snaps_int]
  rfl
theorem snaps_rm {st : Sto} {n : Nat} : ∀ l : Lot, seqOpt (snap st (n + 2)) (l.map rmD) = some (l.map fun r => .tuple (r.map PySem.PyData.int))
  | [] => rfl
  | x :: r => by
    rw [List.map_cons, seqOpt, snaps_rm r, snap_rm]
    rfl
theorem snap_lo {st : Sto} {n : Nat} {l : Lot} : snap st (n + 3) (loD l) = some (.tuple (l.map fun r => .tuple (r.map PySem.PyData.int))) := by
  unfold loD
  rw [snap_tup, snaps_rm]
  rfl
theorem eqv_ints : ∀ r s : List Int, PySem.PyData.eqvAll (r.map PySem.PyData.int) (s.map PySem.PyData.int) = eqI r s
  | [], [] => rfl
  | [], _ :: _ => rfl
  | _ :: _, [] => rfl
  | x :: r, y :: s => by
    simp only [List.map_cons, PySem.PyData.eqvAll, PySem.PyData.eqv, eqv_ints r s, eqI]
    rfl
theorem eqv_rm {r s : List Int} : PySem.PyData.eqv (.tuple (r.map PySem.PyData.int)) (.tuple (s.map PySem.PyData.int)) = eqI r s := by
  simp only [PySem.PyData.eqv, eqv_ints]
theorem eqI_iff : ∀ r s : List Int, eqI r s = true ↔ r = s
  | [], [] => by simp [eqI]
  | [], _ :: _ => by simp [eqI]
  | _ :: _, [] => by simp [eqI]
  | x :: r, y :: s => by simp [eqI, eqI_iff r s]
theorem eqL_iff : ∀ r s : Lot, eqL r s = true ↔ r = s
  | [], [] => by simp [eqL]
  | [], _ :: _ => by simp [eqL]
  | _ :: _, [] => by simp [eqL]
  | x :: r, y :: s => by simp [eqL, eqL_iff r s, eqI_iff]
theorem int_inj : ∀ {r s : List Int}, r.map D.int = s.map D.int → r = s
  | [], [], _ => rfl
  | [], _ :: _, h => nomatch h
  | _ :: _, [], h => nomatch h
  | x :: r, y :: s, h => by
    simp only [List.map_cons, List.cons.injEq, D.int.injEq] at h
    rw [h.1, int_inj h.2]
theorem rmD_inj {r s : List Int} : rmD r = rmD s ↔ r = s := by
  unfold rmD
  constructor
  · intro h
    exact int_inj (D.tup.inj h)
  · rintro rfl
    rfl
theorem rms_inj : ∀ {r s : Lot}, r.map rmD = s.map rmD → r = s
  | [], [], _ => rfl
  | [], _ :: _, h => nomatch h
  | _ :: _, [], h => nomatch h
  | x :: r, y :: s, h => by
    simp only [List.map_cons, List.cons.injEq, rmD_inj] at h
    rw [h.1, rms_inj h.2]
theorem loD_inj {r s : Lot} : loD r = loD s ↔ r = s := by
  unfold loD
  constructor
  · intro h
    exact rms_inj (D.tup.inj h)
  · rintro rfl
    rfl
theorem any_memI {r : List Int} : ∀ l : Lot, (l.map fun r => PySem.PyData.tuple (r.map PySem.PyData.int)).any (fun z => PySem.PyData.eqv z (.tuple (r.map PySem.PyData.int))) = memI r l
  | [] => rfl
  | x :: l => by
    simp only [List.map_cons, List.any_cons, eqv_rm, any_memI l, memI]
theorem memD_lo {st : Sto} {r : List Int} {l : Lot} : memD st (rmD r) (loD l) = some (memI r l) := by
  have h1 : snap st deep (rmD r) = _ := snap_rm (n := 14)
  have h2 : snap st deep (loD l) = _ := snap_lo (n := 13)
  show (match snap st deep (rmD r), snap st deep (loD l) with
    | some a, some (.tuple bs) => some (bs.any fun z => PySem.PyData.eqv z a)
    | _, _ => none) = _
  rw [h1, h2]
  simp only [any_memI]
theorem lex_ints {n : Nat} : ∀ r s : List Int, lexD (ltD (n + 1)) (r.map D.int) (s.map D.int) = ltI r s
  | [], [] => rfl
  | [], _ :: _ => rfl
  | _ :: _, [] => rfl
  | x :: r, y :: s => by
    simp only [List.map_cons, lexD, ltI, D.int.injEq, lex_ints r s]
    rfl
theorem ltD_rm {r s : List Int} : ltD 6 (rmD r) (rmD s) = ltI r s := lex_ints (n := 4) r s
theorem ins_rm {y : List Int} : ∀ l : Lot, insD (ltD 6) (rmD y) (l.map rmD) = (insI y l).map rmD
  | [] => rfl
  | z :: zs => by
    simp only [List.map_cons, insD, ltD_rm, insI]
    split
    · rfl
    · simp only [List.map_cons, ins_rm zs]
theorem srt_rm (l : Lot) : srtD (ltD 6) (l.map rmD) = (srtI l).map rmD := by
  unfold srtD srtI
  have : ∀ (acc : Lot), (l.map rmD).foldl (fun acc y => insD (ltD 6) y acc) (acc.map rmD) = (l.foldl (fun acc y => insI y acc) acc).map rmD := by
    induction l with
    | nil => intro acc; rfl
    | cons x l ih =>
      intro acc
      simp only [List.map_cons, List.foldl_cons, ins_rm, ih]
  exact this []
theorem sort_rm (l : Lot) : sortD (l.map rmD) = some ((srtI l).map rmD) := by
  have h : (l.map rmD).all rowD = true := by
    rw [List.all_eq_true]
    intro x hx
    obtain ⟨r, _, rfl⟩ := List.mem_map.mp hx
    show (r.map D.int).all intD = true
    rw [List.all_eq_true]
    intro y hy
    obtain ⟨i, _, rfl⟩ := List.mem_map.mp hy
    rfl
  unfold sortD sortOk
  simp only [h, Bool.true_or, if_true, srt_rm]
theorem keyOk_lo {l : Lot} : keyOk 6 (loD l) = true := by
  show (l.map rmD).all (keyOk 5) = true
  rw [List.all_eq_true]
  intro x hx
  obtain ⟨r, _, rfl⟩ := List.mem_map.mp hx
  show (r.map D.int).all (keyOk 4) = true
  rw [List.all_eq_true]
  intro y hy
  obtain ⟨i, _, rfl⟩ := List.mem_map.mp hy
  rfl
/-- a level as a dict -/
def kvD (l : List Lot) : List (D × D) := l.map fun k => (loD k, .bl true)
theorem kvD_ok {l : List Lot} {k : Lot} : dictOk (kvD l) (loD k) = true := by
  unfold dictOk
  simp only [keyOk_lo, Bool.true_and, List.all_eq_true]
  intro p hp
  obtain ⟨x, _, rfl⟩ := List.mem_map.mp hp
  rfl
theorem put_kv {k : Lot} : ∀ l : List Lot, dput (kvD l) (loD k) (.bl true) = kvD (insU k l)
  | [] => rfl
  | x :: r => by
    have ih := put_kv (k := k) r
    unfold kvD at ih ⊢
    simp only [List.map_cons, dput, loD_inj, insU]
    by_cases h : x = k
    · have : eqL x k = true := (eqL_iff x k).mpr h
      simp only [h, if_true, this, cond_true]
      rw [show eqL k k = true from (eqL_iff k k).mpr rfl]
      rfl
    · have : eqL x k = false := by
        cases e : eqL x k with
        | false => rfl
        | true => exact absurd ((eqL_iff x k).mp e) h
      simp only [h, if_false, this, cond_false, List.map_cons, ih]
/-! ### how many there are -/
theorem len_insU {k : Lot} : ∀ l : List Lot, (insU k l).length ≤ l.length + 1
  | [] => by simp [insU]
  | x :: r => by
    unfold insU
    cases eqL x k
    · have := len_insU (k := k) r
      simp only [cond_false, List.length_cons]
      omega
    · simp
theorem len_g3 {lot : Lot} {room : List Int} {later : List Lot} {s : Int} : (g3 lot room later s).length ≤ later.length + 1 := by
  unfold g3
  cases okS lot room s
  · simp
  · exact len_insU _
theorem len_fold {α : Type} {f : List Lot → α → List Lot} {k : Nat} (hf : ∀ l a, (f l a).length ≤ l.length + k) : ∀ (as : List α) (l : List Lot), (as.foldl f l).length ≤ l.length + k * as.length
  | [], l => by simp
  | a :: as, l => by
    have h1 := hf l a
    have h2 := len_fold hf as (f l a)
    rw [List.foldl_cons, List.length_cons, Nat.mul_succ]
    omega
theorem len_steps {c : Nat} : (stepsI c).length = 2 * c := by
  induction c with
  | zero => rfl
  | succ c ih =>
    have : stepsI (c + 1) = stepsI c ++ [1 + (c : Int), -(1 + (c : Int))] := by
      unfold stepsI
      rw [List.range_succ, List.flatMap_append]
      rfl
    rw [this, List.length_append, ih]
    simp
    omega
theorem len_g2 {c : Nat} {lot : Lot} {later : List Lot} {room : List Int} : (g2 c lot later room).length ≤ later.length + 2 * c := by
  have := len_fold (f := g3 lot room) (k := 1) (fun l a => len_g3) (stepsI c) later
  rw [len_steps] at this
  unfold g2
  omega
theorem len_g1 {c : Nat} {lot : Lot} {later : List Lot} : (g1 c later lot).length ≤ later.length + 2 * c * lot.length := len_fold (fun l a => len_g2) lot later
/-! ### all lots of a level are of one length -/
def AllLen (n : Nat) (l : List Lot) : Prop := ∀ x ∈ l, x.length = n
theorem len_insI {y : List Int} : ∀ l : Lot, (insI y l).length = l.length + 1
  | [] => rfl
  | z :: zs => by
    unfold insI
    split
    · rfl
    · simp only [List.length_cons, len_insI zs]
theorem len_srtI (l : Lot) : (srtI l).length = l.length := by
  have : ∀ acc : Lot, (l.foldl (fun acc y => insI y acc) acc).length = acc.length + l.length := by
    induction l with
    | nil => intro acc; rfl
    | cons x l ih => intro acc; rw [List.foldl_cons, ih, len_insI, List.length_cons]; omega
  have := this []
  unfold srtI
  simpa using this
theorem all_insU {n : Nat} {k : Lot} (hk : k.length = n) : ∀ l : List Lot, AllLen n l → AllLen n (insU k l)
  | [], h => by
    intro x hx
    simp only [insU, List.mem_cons, List.not_mem_nil, or_false] at hx
    rw [hx]; exact hk
  | z :: r, h => by
    unfold insU
    cases eqL z k
    · intro x hx
      simp only [cond_false, List.mem_cons] at hx
      rcases hx with rfl | hx
      · exact h _ (List.mem_cons_self ..)
      · exact all_insU hk r (fun y hy => h y (List.mem_cons_of_mem _ hy)) x hx
    · exact h
theorem all_g3 {n : Nat} {lot : Lot} {room : List Int} {later : List Lot} {s : Int} (hl : lot.length = n) (h : AllLen (n + 1) later) : AllLen (n + 1) (g3 lot room later s) := by
  unfold g3
  cases okS lot room s
  · exact h
  · exact all_insU (by rw [len_srtI]; simp [hl]) _ h
theorem all_fold {α : Type} {n : Nat} {f : List Lot → α → List Lot} (hf : ∀ l a, AllLen n l → AllLen n (f l a)) : ∀ (as : List α) (l : List Lot), AllLen n l → AllLen n (as.foldl f l)
  | [], l, h => h
  | a :: as, l, h => all_fold hf as (f l a) (hf l a h)
theorem all_g1 {n c : Nat} {lot : Lot} {later : List Lot} (hl : lot.length = n) (h : AllLen (n + 1) later) : AllLen (n + 1) (g1 c later lot) := all_fold (fun l a h => all_fold (fun l a h => all_g3 hl h) _ l h) lot later h
theorem all_grow {n c : Nat} {level : List Lot} (h : AllLen n level) : AllLen (n + 1) (grow c level) := by
  unfold grow
  have : ∀ (ls : List Lot) (acc : List Lot), AllLen n ls → AllLen (n + 1) acc → AllLen (n + 1) (ls.foldl (g1 c) acc) := by
    intro ls
    induction ls with
    | nil => intro acc _ h; exact h
    | cons x ls ih => intro acc hl ha; exact ih _ (fun y hy => hl y (List.mem_cons_of_mem _ hy)) (all_g1 (hl x (List.mem_cons_self ..)) ha)
  exact this level [] h (fun _ h => nomatch h)
theorem all_lv {c : Nat} : ∀ n, AllLen (n + 1) (lv c n)
  | 0 => by
    intro x hx
    simp only [lv, List.mem_cons, List.not_mem_nil, or_false] at hx
    rw [hx]; rfl
  | n + 1 => all_grow (all_lv n)
theorem len_partial {n c : Nat} {ls : List Lot} (h : AllLen n ls) : (ls.foldl (g1 c) []).length ≤ 2 * c * n * ls.length := by
  have : ∀ (ls : List Lot) (acc : List Lot), AllLen n ls → (ls.foldl (g1 c) acc).length ≤ acc.length + 2 * c * n * ls.length := by
    intro ls
    induction ls with
    | nil => intro acc _; simp
    | cons x ls ih =>
      intro acc hl
      have h1 := ih (g1 c acc x) (fun y hy => hl y (List.mem_cons_of_mem _ hy))
      have h2 := len_g1 (c := c) (lot := x) (later := acc)
      rw [hl x (List.mem_cons_self ..)] at h2
      rw [List.foldl_cons, List.length_cons, Nat.mul_succ]
      omega
  have := this ls [] h
  simpa using this
/-! ### steps -/
def F9' : Fn := ⟨1, 3, [.set (.name 1) (.lst []), .fors (.name 2) (.rng2 (.cst (.int 1)) (.bin .add (.var 0) (.cst (.int 1)))) [.expr (.meth .extend (.var 1) [(.lst [(.var 2), (.neg (.var 2))])])], .ret (.var 1)]⟩
theorem s_steps (d c : Nat) (st : Sto) (hc : c ≤ 100) {X : Nat → D → Sto → Prop} : Hi (callN FT (d + 1) 9 [.int (c : Nat)] st) (fun v st' => v = .ref st.length ∧ Pre st st' ∧ st'[st.length]? = some (.lst ((stepsI c).map D.int))) X := by
  with_reducible refine hi_call (f := F9') [some (.int (c : Nat)), none, none] ?_ ?_ ?_ ?_ ?_
  · rfl
  · rfl
  · decide
  · rfl
  unfold F9'
  repeat fail "go"
  have s1 : small 1 = true := by decide
  have s2 : small ((c : Int) + 1) = true := by
    have := small_nat (n := c + 1) (by omega)
    simpa using this
  have n1 : ((c : Int) + 1 - 1).toNat = c := by omega
  with_reducible refine hi_for (t := .rng 1 c) (st1 := st ++ [O.lst []]) (rngL 1 c) (fun i env s => ∃ x, env = [some (.int (c : Nat)), some (.ref st.length), x] ∧ Pre st s ∧ s[st.length]? = some (.lst ((stepsI i).map D.int))) ?_ (fun _ _ _ _ _ => rng_at) ?_ ?_ ?_ ?_
  · repeat fail "go"
    exact ⟨_, _, rfl, rfl, s1, s2, by rw [n1], rfl⟩
  · rw [rngL_len]; omega
  · rintro i x env s hx ⟨x2, rfl, hpre, hl⟩
    rw [rngL_get] at hx
    split at hx <;> rename_i hi
    case isFalse => exact nomatch hx
    cases hx
    refine ⟨_, rfl, ?_⟩
    repeat fail "go"
    refine ⟨meTy_L hl rfl, ?_⟩
    repeat fail "go"
    have e1 : (s ++ [O.lst [D.int (1 + (i : Int)), D.int (-(1 + (i : Int)))]])[st.length]? = some (.lst ((stepsI i).map D.int)) := get_app hl
    have e2 : (s ++ [O.lst [D.int (1 + (i : Int)), D.int (-(1 + (i : Int)))]])[s.length]? = some (.lst [D.int (1 + (i : Int)), D.int (-(1 + (i : Int)))]) := get_new
    have e3 : ((stepsI i).map D.int).length + [D.int (1 + (i : Int)), D.int (-(1 + (i : Int)))].length ≤ lim := by
      rw [List.length_map, len_steps]
      show 2 * i + 2 ≤ 16777216
      omega
    have em : methD .extend (.ref st.length) [.ref s.length] (s ++ [O.lst [D.int (1 + (i : Int)), D.int (-(1 + (i : Int)))]]) = .ok .non ((s ++ [O.lst [D.int (1 + (i : Int)), D.int (-(1 + (i : Int)))]]).set st.length (.lst ((stepsI i).map D.int ++ [D.int (1 + (i : Int)), D.int (-(1 + (i : Int)))]))) := by
      simp only [methD, e1, e2, e3, if_true]
    with_reducible refine Hi.eqc em ?_
    refine hi_nil ⟨_, rfl, hpre.app.set (Nat.le_refl _), ?_⟩
    rw [get_set e1]
    have : stepsI (i + 1) = stepsI i ++ [1 + (i : Int), -(1 + (i : Int))] := by
      unfold stepsI
      rw [List.range_succ, List.flatMap_append]
      rfl
    rw [this, List.map_append]
    rfl
  · exact ⟨none, rfl, Pre.refl.app, get_new⟩
  · rintro env s ⟨x, rfl, hpre, hl⟩
    rw [rngL_len] at hl
    repeat fail "go"
    have ht : tidy st (.ok (.ref st.length) s) = .ok (.ref st.length) s := rfl
    with_reducible refine Hi.eqc ht ⟨rfl, hpre, hl⟩
end K65

set_option Elab.async false
set_option linter.all false
set_option maxRecDepth 100000
set_option maxHeartbeats 1000000
/-! K65: the law's own lots, its formula. -/
namespace K65
open Mi
local macro_rules | `(tactic| fail "go") => `(tactic| first
  | with_reducible refine hi_cst ?_
  | with_reducible refine hi_var (by with_unfolding_all exact rfl) ?_
  | with_reducible refine hi_bin ?_ | with_reducible refine hi_cmp ?_ | with_reducible refine hi_idx ?_
  | with_reducible refine hi_callE ?_ | with_reducible refine hi_bi ?_ | with_reducible refine hi_dcons ?_ | with_reducible refine hi_dnil ?_
  | with_reducible refine hi_tup ?_ | with_reducible refine hi_lst ?_ | with_reducible refine hi_dic ?_ | with_reducible refine hi_neg ?_ | with_reducible refine hi_not ?_
  | with_reducible refine hi_and ?_ | with_reducible refine hi_or ?_ | with_reducible refine hi_ite ?_ | with_reducible refine hi_chain ?_
  | with_reducible refine hi_slice ?_ | with_reducible refine hi_onone ?_ | with_reducible refine hi_osome ?_ | with_reducible refine hi_meth ?_
  | with_reducible refine hi_isI ?_ | with_reducible refine hi_isX ?_ | with_reducible refine hi_val ?_ | with_reducible refine hi_heard ?_
  | with_reducible refine hi_addI ?_ | with_reducible refine hi_subI ?_ | with_reducible refine hi_ltI ?_ | with_reducible refine hi_leI ?_ | with_reducible refine hi_gtI ?_ | with_reducible refine hi_geI ?_ | with_reducible refine hi_eqI ?_ | with_reducible refine hi_neI ?_
  | with_reducible refine Br.mk ?_ | with_reducible refine IsI.mk ?_
  | with_reducible refine hi_ret ?_ | with_reducible refine hi_raise ?_ | with_reducible refine hi_expr ?_ | with_reducible refine hi_ifs ?_ | with_reducible refine hi_nil ?_ | with_reducible refine hi_put ?_
  | with_reducible refine hi_set (by with_unfolding_all exact rfl) ?_ | with_reducible refine hi_setG ?_
  | with_reducible refine PutG.mk (by with_unfolding_all exact rfl) ?_ | with_reducible refine Fits.mk (by with_unfolding_all exact rfl) ?_
  | with_reducible refine hi_intI ?_ | with_reducible refine hi_intB ?_ | with_reducible refine hi_absI ?_ | with_reducible refine hi_lenT ?_ | with_reducible refine hi_lenF ?_ | with_reducible refine hi_sliceT ?_ | with_reducible refine hi_max ?_ | with_reducible refine hi_min ?_
  | with_reducible refine hi_rng1 ?_ | with_reducible refine hi_rng2 ?_
  | dsimp only [ct, cf, nt, nf, goOn, retD, List.set_cons_succ, List.set_cons_zero])
local macro_rules | `(tactic| fail "gs") => `(tactic| first
  | with_reducible refine hi_cst ?_
  | with_reducible refine hi_var (by with_unfolding_all exact rfl) ?_
  | with_reducible refine hi_bin ?_ | with_reducible refine hi_cmp ?_ | with_reducible refine hi_idx ?_
  | with_reducible refine hi_callE ?_ | with_reducible refine hi_bi ?_ | with_reducible refine hi_dcons ?_ | with_reducible refine hi_dnil ?_
  | with_reducible refine hi_tup ?_ | with_reducible refine hi_lst ?_ | with_reducible refine hi_dic ?_ | with_reducible refine hi_neg ?_ | with_reducible refine hi_not ?_
  | with_reducible refine hi_slice ?_ | with_reducible refine hi_onone ?_ | with_reducible refine hi_osome ?_ | with_reducible refine hi_meth ?_
  | with_reducible refine hi_isI ?_ | with_reducible refine hi_isX ?_ | with_reducible refine hi_val ?_ | with_reducible refine hi_heard ?_
  | with_reducible refine hi_addI ?_ | with_reducible refine hi_subI ?_ | with_reducible refine hi_ltI ?_ | with_reducible refine hi_leI ?_ | with_reducible refine hi_gtI ?_ | with_reducible refine hi_geI ?_ | with_reducible refine hi_eqI ?_ | with_reducible refine hi_neI ?_
  | with_reducible refine Br.mk ?_ | with_reducible refine IsI.mk ?_
  | with_reducible refine hi_ret ?_ | with_reducible refine hi_raise ?_ | with_reducible refine hi_expr ?_ | with_reducible refine hi_nil ?_ | with_reducible refine hi_put ?_
  | with_reducible refine hi_set (by with_unfolding_all exact rfl) ?_ | with_reducible refine hi_setG ?_
  | with_reducible refine PutG.mk (by with_unfolding_all exact rfl) ?_ | with_reducible refine Fits.mk (by with_unfolding_all exact rfl) ?_
  | with_reducible refine hi_intI ?_ | with_reducible refine hi_intB ?_ | with_reducible refine hi_absI ?_ | with_reducible refine hi_lenT ?_ | with_reducible refine hi_lenF ?_ | with_reducible refine hi_sliceT ?_ | with_reducible refine hi_max ?_ | with_reducible refine hi_min ?_
  | with_reducible refine hi_rng1 ?_ | with_reducible refine hi_rng2 ?_
  | dsimp only [ct, cf, nt, nf, goOn, retD, List.set_cons_succ, List.set_cons_zero])
def stepS : List S := [.set (.name 10) (.bin .add (.var 8) (.tup [(.var 9)])),
  .ifs (.and (.or (.cmp .eq (.var 8) (.tup [])) (.cmp .ne (.idx (.var 8) (.neg (.cst (.int 1)))) (.neg (.var 9)))) (.cmp .nmem (.var 10) (.var 7)))
    [.put (.var 6) (.bi .tuple [(.bi .sorted [(.bin .add (.var 7) (.tup [(.var 10)]))])]) (.cst (.bl true))]
    []]
def roomS : List S := [.fors (.name 9) (.seq (.var 2)) stepS]
def lotS : List S := [.fors (.name 8) (.seq (.var 7)) roomS]
def lapS : List S := [.expr (.meth .append (.var 4) [(.bi .len [(.var 3)])]), .set (.name 6) (.dic []), .fors (.name 7) (.seq (.var 3)) lotS, .set (.name 3) (.var 6)]
def F10' : Fn := ⟨2, 11, [.set (.tup [(.name 2), (.name 3), (.name 4)]) (.tup [(.call 9 [(.var 0)]), (.dic [(.tup [(.tup [])]), (.cst (.bl true))]), (.lst [])]), .fors (.name 5) (.rng1 (.var 1)) lapS, .ret (.var 4)]⟩
theorem F10_eq : F10 = F10' := rfl
/-- the store of a turn: steps, level, found, later -/
structure Sr (st0 st : Sto) (c : Nat) (s L ep f T : Nat) (level : List Lot) (found : List Int) (later : List Lot) : Prop where
  pre : Pre st0 st
  hs : st[s]? = some (.lst ((stepsI c).map D.int))
  hL : st[L]? = some (.dic (kvD level) ep)
  hf : st[f]? = some (.lst (found.map D.int))
  hT : ∃ ep, st[T]? = some (.dic (kvD later) ep)
  bT : st0.length ≤ T
  nS : T ≠ s
  nL : T ≠ L
  nf : T ≠ f
theorem place_last {n : Nat} : place (n + 1) (-1) = some n := by
  unfold place
  rw [if_neg (by decide), if_pos (by omega)]
  congr 1
  omega
theorem s_turn {Φ : Nat → List D → M D} {st0 st : Sto} {c s L ep f T : Nat} {level later : List Lot} {found : List Int} {lot : Lot} {room : List Int} {stp : Int} {x0 x1 x5 x10 : Option D} {X : Nat → D → Sto → Prop} (h : Sr st0 st c s L ep f T level found later) (hl : later.length < 1000000) (hlot : lot.length < 1000) (hroom : room.length < 1000) :
    Hi (denSs Φ stepS [x0, x1, some (.ref s), some (.ref L), some (.ref f), x5, some (.ref T), some (loD lot), some (rmD room), some (.int stp), x10] st) (fun fl st' => ∃ y10, fl = .nx [x0, x1, some (.ref s), some (.ref L), some (.ref f), x5, some (.ref T), some (loD lot), some (rmD room), some (.int stp), y10] ∧ Sr st0 st' c s L ep f T level found (g3 lot room later stp)) X := by
  unfold stepS
  have er : room.map D.int ++ [D.int stp] = (room ++ [stp]).map D.int := by simp
  have e1 : snap st deep (rmD room) = _ := snap_rm (n := 14)
  repeat fail "gs"
  unfold rmD
  refine hi_addT (by simp [lim]; omega) ?_
  rw [er]
  repeat fail "gs"
  have e2 : snap st deep (.tup []) = some (.tuple []) := rfl
  have e3 : PySem.PyData.eqv (.tuple (room.map PySem.PyData.int)) (.tuple []) = eqI room [] := eqv_rm (s := [])
  have hE : eqI room [] = room.isEmpty := by cases room <;> rfl
  with_reducible refine hi_ifs ?_
  refine Hi.cutV (.bl (okS lot room stp)) st ?_ ?_
  · with_reducible refine hi_and ?_
    refine Hi.cutV (.bl (room.isEmpty || !decide (room.getLast? = some (-stp)))) st ?_ ?_
    · repeat fail "go"
      refine hi_eqD (x := .tuple (room.map PySem.PyData.int)) (y := .tuple []) e1 e2 ?_
      rw [e3, hE]
      repeat fail "go"
      refine ⟨fun hne => ?_, fun he => ⟨by rw [he]; rfl, rfl⟩⟩
      repeat fail "go"
      obtain ⟨r, z, rfl⟩ : ∃ r z, room = r ++ [z] := by
        rcases List.eq_nil_or_concat room with e | ⟨r, z, e⟩
        · rw [e] at hne; exact nomatch hne
        · exact ⟨r, z, by simpa using e⟩
      refine hi_idxT (n := r.length) (v := .int z) ?_ (by simp) ?_
      · rw [List.length_map, List.length_append]
        exact place_last
      repeat fail "go"
      refine ⟨?_, rfl⟩
      rw [hne]
      simp
    · repeat fail "go"
      refine ⟨fun hk => ?_, fun hk => ⟨by rw [okS, hk]; rfl, rfl⟩⟩
      repeat fail "go"
      have hm : memD st (D.tup ((room ++ [stp]).map D.int)) (loD lot) = some (memI (room ++ [stp]) lot) := memD_lo
      have hc : cmpD .nmem (D.tup ((room ++ [stp]).map D.int)) (loD lot) st = .ok (.bl (!memI (room ++ [stp]) lot)) st := by
        simp only [cmpD, hm, Option.map_some]
      with_reducible refine Hi.eqc hc ?_
      repeat fail "go"
      exact ⟨by rw [okS, hk]; rfl, rfl⟩
  · repeat fail "go"
    cases hk : okS lot room stp with
    | false =>
      repeat fail "go"
      refine ⟨_, rfl, ?_⟩
      have : g3 lot room later stp = later := by rw [g3, hk]; rfl
      rw [this]
      exact h
    | true =>
      repeat fail "go"
      have hadd : lot.map rmD ++ [D.tup ((room ++ [stp]).map D.int)] = (lot ++ [room ++ [stp]]).map rmD := by
        show lot.map rmD ++ [rmD (room ++ [stp])] = _
        rw [List.map_append]
        rfl
      unfold loD
      refine hi_addT (by simp [lim]; omega) ?_
      rw [hadd]
      repeat fail "go"
      have hs : biD .sorted [.tup ((lot ++ [room ++ [stp]]).map rmD)] st = .ok (.ref st.length) (st ++ [.lst ((srtI (lot ++ [room ++ [stp]])).map rmD)]) := by
        have hlim : ((srtI (lot ++ [room ++ [stp]])).map rmD).length ≤ lim := by
          rw [List.length_map, len_srtI, List.length_append]
          show lot.length + 1 ≤ 16777216
          omega
        simp only [biD, isSeq, Option.bind_some, sort_rm, newL, hlim, if_true, alloc]
      with_reducible refine Hi.eqc hs ?_
      repeat fail "go"
      refine hi_tupL get_new ?_
      repeat fail "go"
      obtain ⟨ep, hT⟩ := h.hT
      have hT' : (st ++ [O.lst ((srtI (lot ++ [room ++ [stp]])).map rmD)])[T]? = some (.dic (kvD later) ep) := get_app hT
      have hput : ∃ ep', putD (.ref T) (.tup ((srtI (lot ++ [room ++ [stp]])).map rmD)) (.bl true) (st ++ [O.lst ((srtI (lot ++ [room ++ [stp]])).map rmD)]) = some ((st ++ [O.lst ((srtI (lot ++ [room ++ [stp]])).map rmD)]).set T (.dic (kvD (insU (srtI (lot ++ [room ++ [stp]])) later)) ep')) := by
        have hd : dictOk (kvD later) (.tup ((srtI (lot ++ [room ++ [stp]])).map rmD)) = true := kvD_ok (k := srtI (lot ++ [room ++ [stp]]))
        have hlim : (kvD later).length < lim := by
          unfold kvD
          rw [List.length_map]
          show later.length < 16777216
          omega
        refine ⟨if (dget (kvD later) (.tup ((srtI (lot ++ [room ++ [stp]])).map rmD))).isSome then ep else ep + 1, ?_⟩
        simp only [putD, hT', hd, hlim, decide_true, Bool.and_self, if_true]
        rw [← put_kv]
        rfl
      obtain ⟨ep', hput⟩ := hput
      refine ⟨_, hput, ?_⟩
      repeat fail "go"
      refine ⟨_, rfl, ?_⟩
      have hg : g3 lot room later stp = insU (srtI (lot ++ [room ++ [stp]])) later := by rw [g3, hk]; rfl
      rw [hg]
      exact ⟨h.pre.app.set h.bT, get_set_ne (get_app h.hs) h.nS, get_set_ne (get_app h.hL) h.nL, get_set_ne (get_app h.hf) h.nf, ⟨ep', get_set (get_app hT)⟩, h.bT, h.nS, h.nL, h.nf⟩
theorem ref_hat {st : Sto} {k i : Nat} {xs : List D} (h : st[k]? = some (.lst xs)) : (Itv.sq (.ref k)).at st i = some xs[i]? := ref_at h
theorem keys_hat {st : Sto} {k ep i : Nat} {kvs : List (D × D)} (h : st[k]? = some (.dic kvs ep)) : (Itv.keys k ep kvs.length).at st i = some (kvs.map Prod.fst)[i]? := by
  show (match st[k]? with | some (.dic kvs' ep') => if ep' = ep ∧ kvs'.length = kvs.length then some ((kvs'[i]?).map Prod.fst) else none | _ => none) = _
  rw [h]
  simp
theorem kv_keys {l : List Lot} : (kvD l).map Prod.fst = l.map loD := by
  unfold kvD
  rw [List.map_map]
  rfl
theorem foldl_snoc {α β : Type} {f : β → α → β} {b : β} {xs : List α} {x : α} : (xs ++ [x]).foldl f b = f (xs.foldl f b) x := by
  rw [List.foldl_append]
  rfl
theorem s_room {Φ : Nat → List D → M D} {st0 st : Sto} {c s L ep f T : Nat} {level later : List Lot} {found : List Int} {lot : Lot} {room : List Int} {x0 x1 x5 x9 x10 : Option D} {X : Nat → D → Sto → Prop} (h : Sr st0 st c s L ep f T level found later) (hc : c ≤ 4) (hl : later.length < 900000) (hlot : lot.length < 1000) (hroom : room.length < 1000) :
    Hi (denSs Φ roomS [x0, x1, some (.ref s), some (.ref L), some (.ref f), x5, some (.ref T), some (loD lot), some (rmD room), x9, x10] st) (fun fl st' => ∃ y9 y10, fl = .nx [x0, x1, some (.ref s), some (.ref L), some (.ref f), x5, some (.ref T), some (loD lot), some (rmD room), y9, y10] ∧ Sr st0 st' c s L ep f T level found (g2 c lot later room)) X := by
  unfold roomS
  with_reducible refine hi_forP (t := .sq (.ref s)) (st1 := st) (stepsI c) D.int (fun zs env st' => ∃ y9 y10, env = [x0, x1, some (.ref s), some (.ref L), some (.ref f), x5, some (.ref T), some (loD lot), some (rmD room), y9, y10] ∧ Sr st0 st' c s L ep f T level found (zs.foldl (g3 lot room) later)) ?_ ?_ ?_ ?_ ?_ ?_
  · with_reducible refine hi_seqL ?_
    repeat fail "gs"
    exact ⟨s, _, rfl, h.hs, rfl, rfl⟩
  · rintro zs env st' i ⟨y9, y10, rfl, h'⟩ hi
    exact ref_hat h'.hs
  · rw [len_steps]; omega
  · rintro zs y ws env st' hy ⟨y9, y10, rfl, h'⟩
    refine ⟨_, rfl, ?_⟩
    dsimp only [List.set_cons_succ, List.set_cons_zero]
    have hz := len_fold (f := g3 lot room) (k := 1) (fun l a => len_g3) zs later
    have hzs : zs.length ≤ 8 := by
      have := congrArg List.length hy
      rw [len_steps, List.length_append] at this
      omega
    refine (s_turn h' (by omega) hlot hroom).imp ?_ (fun _ _ _ h => h)
    rintro fl st2 ⟨z10, rfl, h2⟩
    refine ⟨_, _, rfl, ?_⟩
    rw [foldl_snoc]
    exact h2
  · exact ⟨_, _, rfl, h⟩
  · rintro env st' ⟨y9, y10, rfl, h'⟩
    exact hi_nil ⟨_, _, rfl, h'⟩
theorem s_lot {Φ : Nat → List D → M D} {st0 st : Sto} {c s L ep f T : Nat} {level later : List Lot} {found : List Int} {lot : Lot} {x0 x1 x5 x8 x9 x10 : Option D} {X : Nat → D → Sto → Prop} (h : Sr st0 st c s L ep f T level found later) (hc : c ≤ 4) (hl : later.length < 800000) (hlot : lot.length < 1000) (hroom : ∀ r ∈ lot, r.length < 1000) :
    Hi (denSs Φ lotS [x0, x1, some (.ref s), some (.ref L), some (.ref f), x5, some (.ref T), some (loD lot), x8, x9, x10] st) (fun fl st' => ∃ y8 y9 y10, fl = .nx [x0, x1, some (.ref s), some (.ref L), some (.ref f), x5, some (.ref T), some (loD lot), y8, y9, y10] ∧ Sr st0 st' c s L ep f T level found (g1 c later lot)) X := by
  unfold lotS
  with_reducible refine hi_forP (t := .sq (.tup (lot.map rmD))) (st1 := st) lot rmD (fun zs env st' => ∃ y8 y9 y10, env = [x0, x1, some (.ref s), some (.ref L), some (.ref f), x5, some (.ref T), some (loD lot), y8, y9, y10] ∧ Sr st0 st' c s L ep f T level found (zs.foldl (g2 c lot) later)) ?_ ?_ ?_ ?_ ?_ ?_
  · with_reducible refine hi_seqT ?_
    repeat fail "gs"
    exact ⟨_, rfl, rfl, rfl⟩
  · rintro zs env st' i ⟨y8, y9, y10, rfl, h'⟩ hi
    exact tup_at
  · omega
  · rintro zs y ws env st' hy ⟨y8, y9, y10, rfl, h'⟩
    refine ⟨_, rfl, ?_⟩
    dsimp only [List.set_cons_succ, List.set_cons_zero]
    have hz := len_fold (f := g2 c lot) (k := 2 * c) (fun l a => len_g2) zs later
    have hzs : zs.length ≤ 1000 := by
      have := congrArg List.length hy
      rw [List.length_append] at this
      omega
    have hy' : y ∈ lot := by rw [hy]; simp
    have h3 : 2 * c * zs.length ≤ 8 * 1000 := Nat.mul_le_mul (by omega) hzs
    refine (s_room h' hc (by omega) hlot (hroom y hy')).imp ?_ (fun _ _ _ h => h)
    rintro fl st2 ⟨z9, z10, rfl, h2⟩
    refine ⟨_, _, _, rfl, ?_⟩
    rw [foldl_snoc]
    exact h2
  · exact ⟨_, _, _, rfl, h⟩
  · rintro env st' ⟨y8, y9, y10, rfl, h'⟩
    exact hi_nil ⟨_, _, _, rfl, h'⟩
/-! ### rooms of few steps -/
def AllRooms (n : Nat) (l : List Lot) : Prop := ∀ x ∈ l, ∀ r ∈ x, r.length ≤ n
theorem mem_insI {x y : List Int} : ∀ l : Lot, x ∈ insI y l → x = y ∨ x ∈ l
  | [], h => by
    simp only [insI, List.mem_cons, List.not_mem_nil, or_false] at h
    exact Or.inl h
  | z :: zs, h => by
    unfold insI at h
    split at h
    · simp only [List.mem_cons] at h ⊢
      exact h
    · simp only [List.mem_cons] at h ⊢
      rcases h with h | h
      · exact Or.inr (Or.inl h)
      · rcases mem_insI zs h with h | h
        · exact Or.inl h
        · exact Or.inr (Or.inr h)
theorem mem_srtI {x : List Int} (l : Lot) : x ∈ srtI l → x ∈ l := by
  have : ∀ acc : Lot, x ∈ l.foldl (fun acc y => insI y acc) acc → x ∈ acc ∨ x ∈ l := by
    induction l with
    | nil => intro acc h; exact Or.inl h
    | cons z l ih =>
      intro acc h
      rcases ih _ h with h | h
      · rcases mem_insI acc h with h | h
        · exact Or.inr (by rw [h]; exact List.mem_cons_self ..)
        · exact Or.inl h
      · exact Or.inr (List.mem_cons_of_mem _ h)
  intro h
  rcases this [] h with h | h
  · exact nomatch h
  · exact h
theorem mem_insU {x k : Lot} : ∀ l : List Lot, x ∈ insU k l → x = k ∨ x ∈ l
  | [], h => by
    simp only [insU, List.mem_cons, List.not_mem_nil, or_false] at h
    exact Or.inl h
  | z :: zs, h => by
    unfold insU at h
    cases e : eqL z k
    · rw [e] at h
      simp only [cond_false, List.mem_cons] at h ⊢
      rcases h with h | h
      · exact Or.inr (Or.inl h)
      · rcases mem_insU zs h with h | h
        · exact Or.inl h
        · exact Or.inr (Or.inr h)
    · rw [e] at h
      exact Or.inr h
theorem rooms_g3 {n : Nat} {lot : Lot} {room : List Int} {later : List Lot} {s : Int} (hl : ∀ r ∈ lot, r.length ≤ n) (hr : room ∈ lot) (h : AllRooms (n + 1) later) : AllRooms (n + 1) (g3 lot room later s) := by
  unfold g3
  cases okS lot room s
  · exact h
  · intro x hx r hrx
    rcases mem_insU _ hx with rfl | hx
    · have := mem_srtI _ hrx
      simp only [List.mem_append, List.mem_cons, List.not_mem_nil, or_false] at this
      rcases this with h1 | rfl
      · have := hl r h1
        omega
      · have := hl room hr
        rw [List.length_append]
        simp
        omega
    · exact h x hx r hrx
theorem rooms_g2 {n c : Nat} {lot : Lot} {room : List Int} {later : List Lot} (hl : ∀ r ∈ lot, r.length ≤ n) (hr : room ∈ lot) (h : AllRooms (n + 1) later) : AllRooms (n + 1) (g2 c lot later room) := by
  unfold g2
  have : ∀ (ss : List Int) (acc : List Lot), AllRooms (n + 1) acc → AllRooms (n + 1) (ss.foldl (g3 lot room) acc) := by
    intro ss
    induction ss with
    | nil => intro acc h; exact h
    | cons s ss ih => intro acc h; exact ih _ (rooms_g3 hl hr h)
  exact this _ _ h
theorem rooms_g1 {n c : Nat} {lot : Lot} {later : List Lot} (hl : ∀ r ∈ lot, r.length ≤ n) (h : AllRooms (n + 1) later) : AllRooms (n + 1) (g1 c later lot) := by
  unfold g1
  have : ∀ (rs : List (List Int)) (acc : List Lot), (∀ r ∈ rs, r ∈ lot) → AllRooms (n + 1) acc → AllRooms (n + 1) (rs.foldl (g2 c lot) acc) := by
    intro rs
    induction rs with
    | nil => intro acc _ h; exact h
    | cons r rs ih => intro acc hm h; exact ih _ (fun y hy => hm y (List.mem_cons_of_mem _ hy)) (rooms_g2 hl (hm r (List.mem_cons_self ..)) h)
  exact this _ _ (fun r hr => hr) h
theorem rooms_grow {n c : Nat} {level : List Lot} (h : AllRooms n level) : AllRooms (n + 1) (grow c level) := by
  unfold grow
  have : ∀ (ls : List Lot) (acc : List Lot), AllRooms n ls → AllRooms (n + 1) acc → AllRooms (n + 1) (ls.foldl (g1 c) acc) := by
    intro ls
    induction ls with
    | nil => intro acc _ h; exact h
    | cons x ls ih => intro acc hl ha; exact ih _ (fun y hy => hl y (List.mem_cons_of_mem _ hy)) (rooms_g1 (hl x (List.mem_cons_self ..)) ha)
  exact this level [] h (fun _ h => nomatch h)
theorem rooms_lv {c : Nat} : ∀ n, AllRooms n (lv c n)
  | 0 => by
    intro x hx r hr
    simp only [lv, List.mem_cons, List.not_mem_nil, or_false] at hx
    rw [hx] at hr
    simp only [List.mem_cons, List.not_mem_nil, or_false] at hr
    rw [hr]
    exact Nat.le_refl _
  | n + 1 => rooms_grow (rooms_lv n)
/-! ### the laps -/
theorem s_lots (d c m : Nat) (st : Sto) (hc : c ≤ 4) (hm : m ≤ 50) (hsz : ∀ n, n < m → (lv c n).length ≤ 500) {X : Nat → D → Sto → Prop} : Hi (callN FT (d + 2) 10 [.int (c : Nat), .int (m : Nat)] st) (fun v st' => ∃ f, v = .ref f ∧ Pre st st' ∧ st.length ≤ f ∧ st'[f]? = some (.lst (((List.range m).map fun n => ((lv c n).length : Int)).map D.int))) X := by
  with_reducible refine hi_call (f := F10') [some (.int (c : Nat)), some (.int (m : Nat)), none, none, none, none, none, none, none, none, none] ?_ ?_ ?_ ?_ ?_
  · rfl
  · rfl
  · decide
  · rfl
  unfold F10'
  repeat fail "gs"
  have hc100 : c ≤ 100 := by omega
  have hst := s_steps d c st hc100 (X := NX)
  with_reducible refine Hi.imp hst ?_ ?_
  case refine_2 => exact fun _ _ _ h => False.elim h
  rintro v st1 ⟨rfl, hp1, hs1⟩
  repeat fail "gs"
  have hdic : dicOf [D.tup [D.tup []], D.bl true] [] = some (kvD [[[]]]) := rfl
  with_reducible refine ⟨kvD [[[]]], hdic, ?_, ?_⟩
  · exact (by decide : 2 ≤ 30)
  repeat fail "gs"
  have hl1 := hp1.le
  have hs0 := get_lt hs1
  generalize hst2 : (st1 ++ [O.dic (kvD [[[]]]) (kvD [[[]]]).length] ++ [O.lst []]) = st2
  have hlen2 : (st1 ++ [O.dic (kvD [[[]]]) (kvD [[[]]]).length]).length = st1.length + 1 := by simp
  rw [hlen2]
  have hp2 : Pre st st2 := by
    rw [← hst2]
    exact hp1.app.app
  have hs2 : st2[st.length]? = some (.lst ((stepsI c).map D.int)) := by
    rw [← hst2]
    exact get_app (get_app hs1)
  have hL2 : st2[st1.length]? = some (.dic (kvD (lv c 0)) (kvD [[[]]]).length) := by
    rw [← hst2]
    exact get_app get_new
  have hf2 : st2[st1.length + 1]? = some (.lst ((([] : List Int)).map D.int)) := by
    rw [← hst2]
    have := get_new (st := st1 ++ [O.dic (kvD [[[]]]) (kvD [[[]]]).length]) (o := O.lst [])
    rw [hlen2] at this
    exact this
  with_reducible refine hi_for (t := .rng 0 m) (st1 := st2) (rngL 0 m) (fun i env s => ∃ L ep x5 x6 x7 x8 x9 x10, env = [some (.int (c : Nat)), some (.int (m : Nat)), some (.ref st.length), some (.ref L), some (.ref (st1.length + 1)), x5, x6, x7, x8, x9, x10] ∧ Pre st s ∧ s[st.length]? = some (.lst ((stepsI c).map D.int)) ∧ s[L]? = some (.dic (kvD (lv c i)) ep) ∧ s[st1.length + 1]? = some (.lst (((List.range i).map fun n => ((lv c n).length : Int)).map D.int))) ?_ (fun _ _ _ _ _ => rng_at) ?_ ?_ ?_ ?_
  · have := small_nat (n := m) (by omega)
    repeat fail "gs"
    exact ⟨_, rfl, this, rfl, rfl⟩
  · rw [rngL_len]; omega
  · rintro i x env s hx ⟨L, ep, x5, x6, x7, x8, x9, x10, rfl, hpre, hs, hL, hf⟩
    rw [rngL_get] at hx
    split at hx <;> rename_i hi
    case isFalse => exact nomatch hx
    cases hx
    refine ⟨_, rfl, ?_⟩
    have hLf : L ≠ st1.length + 1 := by
      rintro rfl
      rw [hL] at hf
      exact nomatch hf
    have hsf : st.length ≠ st1.length + 1 := by omega
    have hli := hsz i hi
    unfold lapS
    repeat fail "gs"
    refine ⟨meTy_L hf rfl, ?_⟩
    repeat fail "gs"
    have hlen : biD .len [.ref L] s = .ok (.int ((lv c i).length : Nat)) s := by
      simp only [biD, hL]
      unfold kvD
      rw [List.length_map]
    with_reducible refine Hi.eqc hlen ?_
    repeat fail "gs"
    with_reducible refine hi_append hf ?_ ?_
    · rw [List.length_map, List.length_map, List.length_range]; omega
    repeat fail "gs"
    have hfo : (((List.range i).map fun n => ((lv c n).length : Int)).map D.int) ++ [D.int ((lv c i).length : Nat)] = (((List.range (i + 1)).map fun n => ((lv c n).length : Int)).map D.int) := by
      rw [List.range_succ, List.map_append, List.map_append]
      rfl
    rw [hfo]
    generalize hs3 : s.set (st1.length + 1) (O.lst (((List.range (i + 1)).map fun n => ((lv c n).length : Int)).map D.int)) = s3
    have hfl := get_lt hf
    have hp3 : Pre st s3 := by
      rw [← hs3]
      exact hpre.set (by omega)
    have hf3 : s3[st1.length + 1]? = some (O.lst (((List.range (i + 1)).map fun n => ((lv c n).length : Int)).map D.int)) := by
      rw [← hs3]
      exact get_set hf
    have hs3' : s3[st.length]? = some (.lst ((stepsI c).map D.int)) := by
      rw [← hs3]
      exact get_set_ne hs hsf.symm
    have hL3 : s3[L]? = some (.dic (kvD (lv c i)) ep) := by
      rw [← hs3]
      exact get_set_ne hL hLf.symm
    refine ⟨[], rfl, by decide, ?_⟩
    repeat fail "gs"
    have hT0 : ∀ {b : Nat} {o : O}, s3[b]? = some o → s3.length ≠ b := by
      intro b o hb he
      have := get_lt hb
      omega
    have sr0 : Sr st (s3 ++ [O.dic [] 0]) c st.length L ep (st1.length + 1) s3.length (lv c i) ((List.range (i + 1)).map fun n => ((lv c n).length : Int)) [] := ⟨hp3.app, get_app hs3', get_app hL3, get_app hf3, ⟨0, get_new⟩, hp3.le, hT0 hs3', hT0 hL3, hT0 hf3⟩
    with_reducible refine hi_forP (t := .keys L ep (kvD (lv c i)).length) (st1 := s3 ++ [O.dic [] 0]) (lv c i) loD (fun zs env st' => ∃ y7 y8 y9 y10, env = [some (.int (c : Nat)), some (.int (m : Nat)), some (.ref st.length), some (.ref L), some (.ref (st1.length + 1)), some (.int (0 + (i : Int))), some (.ref s3.length), y7, y8, y9, y10] ∧ Sr st st' c st.length L ep (st1.length + 1) s3.length (lv c i) ((List.range (i + 1)).map fun n => ((lv c n).length : Int)) (zs.foldl (g1 c) [])) ?_ ?_ ?_ ?_ ?_ ?_
    · with_reducible refine hi_seqD ?_
      repeat fail "gs"
      exact ⟨L, _, ep, rfl, get_app hL3, rfl, rfl⟩
    · rintro zs env st' j ⟨y7, y8, y9, y10, rfl, h'⟩ hj
      rw [keys_hat h'.hL, kv_keys]
    · omega
    · rintro zs y ws env st' hy ⟨y7, y8, y9, y10, rfl, h'⟩
      refine ⟨_, rfl, ?_⟩
      dsimp only [List.set_cons_succ, List.set_cons_zero]
      have hzm : ∀ z ∈ zs, z ∈ lv c i := by
        intro z hz
        rw [hy]
        exact List.mem_append_left _ hz
      have hym : y ∈ lv c i := by rw [hy]; simp
      have h1 := len_partial (c := c) (ls := zs) (n := i + 1) (fun z hz => all_lv i z (hzm z hz))
      have hzl : zs.length ≤ 500 := by
        have := congrArg List.length hy
        rw [List.length_append] at this
        omega
      have h2 : 2 * c * (i + 1) * zs.length ≤ 8 * 51 * 500 := Nat.mul_le_mul (Nat.mul_le_mul (by omega) (by omega)) hzl
      have h3 := all_lv i y hym
      refine (s_lot h' hc (by omega) (by omega) (fun r hr => by have := rooms_lv i y hym r hr; omega)).imp ?_ (fun _ _ _ h => h)
      rintro fl st2' ⟨z8, z9, z10, rfl, h2'⟩
      refine ⟨_, _, _, _, rfl, ?_⟩
      rw [foldl_snoc]
      exact h2'
    · exact ⟨_, _, _, _, rfl, sr0⟩
    · rintro env st' ⟨y7, y8, y9, y10, rfl, h'⟩
      repeat fail "gs"
      obtain ⟨epT, hT⟩ := h'.hT
      exact ⟨s3.length, epT, _, _, _, _, _, _, rfl, h'.pre, h'.hs, hT, h'.hf⟩
  · exact ⟨st1.length, _, none, none, none, none, none, none, rfl, hp2, hs2, hL2, hf2⟩
  · rintro env s ⟨L, ep, x5, x6, x7, x8, x9, x10, rfl, hpre, hs, hL, hf⟩
    rw [rngL_len] at hf
    repeat fail "gs"
    have ht : tidy st (.ok (.ref (st1.length + 1)) s) = .ok (.ref (st1.length + 1)) s := rfl
    with_reducible refine Hi.eqc ht ⟨_, rfl, hpre, by omega, hf⟩
end K65

set_option Elab.async false
set_option linter.all false
set_option maxRecDepth 100000
set_option maxHeartbeats 1000000
/-! K65: the law. -/
namespace K65
open Mi
local macro_rules | `(tactic| fail "go") => `(tactic| first
  | with_reducible refine hi_cst ?_
  | with_reducible refine hi_var (by with_unfolding_all exact rfl) ?_
  | with_reducible refine hi_bin ?_ | with_reducible refine hi_cmp ?_ | with_reducible refine hi_idx ?_
  | with_reducible refine hi_callE ?_ | with_reducible refine hi_bi ?_ | with_reducible refine hi_dcons ?_ | with_reducible refine hi_dnil ?_
  | with_reducible refine hi_tup ?_ | with_reducible refine hi_lst ?_ | with_reducible refine hi_dic ?_ | with_reducible refine hi_neg ?_ | with_reducible refine hi_not ?_
  | with_reducible refine hi_and ?_ | with_reducible refine hi_or ?_ | with_reducible refine hi_ite ?_ | with_reducible refine hi_chain ?_
  | with_reducible refine hi_slice ?_ | with_reducible refine hi_onone ?_ | with_reducible refine hi_osome ?_ | with_reducible refine hi_meth ?_
  | with_reducible refine hi_isI ?_ | with_reducible refine hi_isX ?_ | with_reducible refine hi_val ?_ | with_reducible refine hi_heard ?_
  | with_reducible refine hi_addI ?_ | with_reducible refine hi_subI ?_ | with_reducible refine hi_ltI ?_ | with_reducible refine hi_leI ?_ | with_reducible refine hi_gtI ?_ | with_reducible refine hi_geI ?_ | with_reducible refine hi_eqI ?_ | with_reducible refine hi_neI ?_
  | with_reducible refine Br.mk ?_ | with_reducible refine IsI.mk ?_
  | with_reducible refine hi_ret ?_ | with_reducible refine hi_raise ?_ | with_reducible refine hi_expr ?_ | with_reducible refine hi_ifs ?_ | with_reducible refine hi_nil ?_ | with_reducible refine hi_put ?_
  | with_reducible refine hi_set (by with_unfolding_all exact rfl) ?_ | with_reducible refine hi_setG ?_
  | with_reducible refine PutG.mk (by with_unfolding_all exact rfl) ?_ | with_reducible refine Fits.mk (by with_unfolding_all exact rfl) ?_
  | with_reducible refine hi_intI ?_ | with_reducible refine hi_intB ?_ | with_reducible refine hi_absI ?_ | with_reducible refine hi_lenT ?_ | with_reducible refine hi_lenF ?_ | with_reducible refine hi_sliceT ?_ | with_reducible refine hi_max ?_ | with_reducible refine hi_min ?_
  | with_reducible refine hi_rng1 ?_ | with_reducible refine hi_rng2 ?_
  | dsimp only [ct, cf, nt, nf, goOn, retD, List.set_cons_succ, List.set_cons_zero])
local macro_rules | `(tactic| fail "gs") => `(tactic| first
  | with_reducible refine hi_cst ?_
  | with_reducible refine hi_var (by with_unfolding_all exact rfl) ?_
  | with_reducible refine hi_bin ?_ | with_reducible refine hi_cmp ?_ | with_reducible refine hi_idx ?_
  | with_reducible refine hi_callE ?_ | with_reducible refine hi_bi ?_ | with_reducible refine hi_dcons ?_ | with_reducible refine hi_dnil ?_
  | with_reducible refine hi_tup ?_ | with_reducible refine hi_lst ?_ | with_reducible refine hi_dic ?_ | with_reducible refine hi_neg ?_ | with_reducible refine hi_not ?_
  | with_reducible refine hi_slice ?_ | with_reducible refine hi_onone ?_ | with_reducible refine hi_osome ?_ | with_reducible refine hi_meth ?_
  | with_reducible refine hi_isI ?_ | with_reducible refine hi_isX ?_ | with_reducible refine hi_val ?_ | with_reducible refine hi_heard ?_
  | with_reducible refine hi_addI ?_ | with_reducible refine hi_subI ?_ | with_reducible refine hi_ltI ?_ | with_reducible refine hi_leI ?_ | with_reducible refine hi_gtI ?_ | with_reducible refine hi_geI ?_ | with_reducible refine hi_eqI ?_ | with_reducible refine hi_neI ?_
  | with_reducible refine Br.mk ?_ | with_reducible refine IsI.mk ?_
  | with_reducible refine hi_ret ?_ | with_reducible refine hi_raise ?_ | with_reducible refine hi_expr ?_ | with_reducible refine hi_nil ?_ | with_reducible refine hi_put ?_
  | with_reducible refine hi_set (by with_unfolding_all exact rfl) ?_ | with_reducible refine hi_setG ?_
  | with_reducible refine PutG.mk (by with_unfolding_all exact rfl) ?_ | with_reducible refine Fits.mk (by with_unfolding_all exact rfl) ?_
  | with_reducible refine hi_intI ?_ | with_reducible refine hi_intB ?_ | with_reducible refine hi_absI ?_ | with_reducible refine hi_lenT ?_ | with_reducible refine hi_lenF ?_ | with_reducible refine hi_sliceT ?_ | with_reducible refine hi_max ?_ | with_reducible refine hi_min ?_
  | with_reducible refine hi_rng1 ?_ | with_reducible refine hi_rng2 ?_
  | dsimp only [ct, cf, nt, nf, goOn, retD, List.set_cons_succ, List.set_cons_zero])
theorem lg_ffac {m : Nat} (hm : m ≤ 1000) : ∀ i, lg ((ffac m i : Nat) : Int) ≤ 11 * i
  | 0 => by
    show lg 1 ≤ 0
    decide
  | i + 1 => by
    have h1 := lg_ffac hm i
    have h2 := lg_mul (x := ((ffac m i : Nat) : Int)) (y := ((m - i : Nat) : Int))
    have h3 : lg ((m - i : Nat) : Int) ≤ 9 := Nat.le_trans (lg_le (y := 1000) (by omega) (by omega)) (by decide +kernel)
    have e : ((ffac m (i + 1) : Nat) : Int) = ((ffac m i : Nat) : Int) * ((m - i : Nat) : Int) := by
      rw [ffac, Int.natCast_mul]
    rw [e]
    omega
theorem lg_fac : ∀ i, i ≤ 1000 → lg ((fac i : Nat) : Int) ≤ 11 * i
  | 0, _ => by decide
  | i + 1, hi => by
    have h1 := lg_fac i (by omega)
    have h2 := lg_mul (x := ((fac i : Nat) : Int)) (y := ((i + 1 : Nat) : Int))
    have h3 : lg ((i + 1 : Nat) : Int) ≤ 9 := Nat.le_trans (lg_le (y := 1000) (by omega) (by omega)) (by decide +kernel)
    have e : ((fac (i + 1) : Nat) : Int) = ((fac i : Nat) : Int) * ((i + 1 : Nat) : Int) := by
      rw [fac, Int.natCast_mul]
    rw [e]
    omega
theorem fac_pos : ∀ i, 0 < fac i
  | 0 => by decide
  | i + 1 => Nat.mul_pos (fac_pos i) (Nat.succ_pos i)
def formS : List S := [.set (.tup [(.name 4), (.name 5)]) (.tup [(.bin .mul (.var 4) (.bin .sub (.bin .mul (.bin .sub (.bin .mul (.cst (.int 2)) (.var 0)) (.cst (.int 1))) (.var 1)) (.var 6))), (.bin .mul (.var 5) (.bin .add (.var 6) (.cst (.int 1))))])]
def F11' : Fn := ⟨2, 7, [.set (.tup [(.name 2), (.name 3)]) (.tup [(.bin .mul (.cst (.int 2)) (.var 0)), (.bin .add (.bin .mul (.bin .sub (.bin .mul (.cst (.int 2)) (.var 0)) (.cst (.int 2))) (.var 1)) (.cst (.int 2)))]),
  .set (.tup [(.name 4), (.name 5)]) (.tup [(.cst (.int 1)), (.cst (.int 1))]),
  .fors (.name 6) (.rng1 (.bin .sub (.var 1) (.cst (.int 1)))) formS,
  .ret (.bin .fdiv (.bin .mul (.var 2) (.var 4)) (.bin .mul (.var 3) (.var 5)))]⟩
theorem s_form (d c r : Nat) (st : Sto) (h1 : 1 ≤ c) (h4 : c ≤ 4) (hr1 : 1 ≤ r) (hr2 : r ≤ 100) : callN FT (d + 1) 11 [.int (c : Nat), .int (r : Nat)] st = .ok (.int ((form c (r - 1) : Nat) : Int)) st := by
  refine call_pure (f := F11') [some (.int (c : Nat)), some (.int (r : Nat)), none, none, none, none, none] rfl rfl (by decide) rfl rfl ?_
  have lc : lg (c : Int) ≤ 9 := Nat.le_trans (lg_le (y := 1000) (by omega) (by omega)) (by decide +kernel)
  have lr : lg (r : Int) ≤ 9 := Nat.le_trans (lg_le (y := 1000) (by omega) (by omega)) (by decide +kernel)
  have l2 : lg (2 : Int) ≤ 9 := by decide
  unfold F11'
  repeat fail "gs"
  refine hi_mulG (by omega) ?_
  repeat fail "gs"
  refine hi_mulG (by omega) ?_
  have e2 : (2 : Int) * (c : Int) - 2 = ((2 * c - 2 : Nat) : Int) := by omega
  repeat fail "gs"
  rw [e2]
  have lc2 : lg ((2 * c - 2 : Nat) : Int) ≤ 9 := Nat.le_trans (lg_le (y := 1000) (by omega) (by omega)) (by decide +kernel)
  refine hi_mulG (by omega) ?_
  repeat fail "gs"
  have e3 : ((2 * c - 2 : Nat) : Int) * (r : Int) + 2 = (((2 * c - 2) * r + 2 : Nat) : Int) := by
    rw [Int.natCast_add, Int.natCast_mul]
    rfl
  have e4 : (2 : Int) * (c : Int) = ((2 * c : Nat) : Int) := by omega
  rw [e3, e4]
  have hcr : (2 * c - 1) * r ≤ 7 * 100 := Nat.mul_le_mul (by omega) hr2
  have hcr1 : r ≤ (2 * c - 1) * r := Nat.le_mul_of_pos_left r (by omega)
  have hcr2 : (2 * c - 2) * r ≤ 6 * 100 := Nat.mul_le_mul (by omega) hr2
  with_reducible refine hi_for (t := .rng 0 (r - 1)) (st1 := st) (rngL 0 (r - 1)) (fun i env s => ∃ x6, env = [some (.int (c : Nat)), some (.int (r : Nat)), some (.int ((2 * c : Nat) : Int)), some (.int (((2 * c - 2) * r + 2 : Nat) : Int)), some (.int ((ffac ((2 * c - 1) * r) i : Nat) : Int)), some (.int ((fac i : Nat) : Int)), x6] ∧ s = st) ?_ (fun _ _ _ _ _ => rng_at) ?_ ?_ ?_ ?_
  · have hs := small_nat (n := r - 1) (by omega)
    have er : (r : Int) - 1 = ((r - 1 : Nat) : Int) := by omega
    repeat fail "gs"
    rw [er]
    exact ⟨_, rfl, hs, rfl, rfl⟩
  · rw [rngL_len]; omega
  · rintro i x env s hx ⟨x6, rfl, rfl⟩
    rw [rngL_get] at hx
    split at hx <;> rename_i hi
    case isFalse => exact nomatch hx
    cases hx
    refine ⟨_, rfl, ?_⟩
    have e0 : (0 + (i : Int)) = (i : Int) := by omega
    rw [e0]
    unfold formS
    have li : lg (i : Int) ≤ 9 := Nat.le_trans (lg_le (y := 1000) (by omega) (by omega)) (by decide +kernel)
    have a1 := lg_ffac (m := (2 * c - 1) * r) (by omega) i
    have a2 := lg_fac i (by omega)
    repeat fail "gs"
    refine hi_mulG (by omega) ?_
    repeat fail "gs"
    have e5 : (2 : Int) * (c : Int) - 1 = ((2 * c - 1 : Nat) : Int) := by omega
    rw [e5]
    have lc1 : lg ((2 * c - 1 : Nat) : Int) ≤ 9 := Nat.le_trans (lg_le (y := 1000) (by omega) (by omega)) (by decide +kernel)
    refine hi_mulG (by omega) ?_
    repeat fail "gs"
    have e6 : ((2 * c - 1 : Nat) : Int) * (r : Int) - (i : Int) = (((2 * c - 1) * r - i : Nat) : Int) := by
      rw [← Int.natCast_mul]
      omega
    rw [e6]
    have lm : lg (((2 * c - 1) * r - i : Nat) : Int) ≤ 9 := Nat.le_trans (lg_le (y := 1000) (by omega) (by omega)) (by decide +kernel)
    refine hi_mulG (by omega) ?_
    repeat fail "gs"
    have e7 : (i : Int) + 1 = ((i + 1 : Nat) : Int) := by omega
    rw [e7]
    have lm : lg ((i + 1 : Nat) : Int) ≤ 9 := Nat.le_trans (lg_le (y := 1000) (by omega) (by omega)) (by decide +kernel)
    refine hi_mulG (by omega) ?_
    repeat fail "gs"
    refine ⟨some (.int (i : Int)), ?_, rfl⟩
    rw [ffac, fac, Int.natCast_mul (ffac _ _) _, Int.natCast_mul (fac _) _]
  · exact ⟨none, rfl, rfl⟩
  · rintro env s ⟨x6, rfl, rfl⟩
    rw [rngL_len]
    have a1 := lg_ffac (m := (2 * c - 1) * r) (by omega) (r - 1)
    have a2 := lg_fac (r - 1) (by omega)
    have lc1 : lg ((2 * c : Nat) : Int) ≤ 9 := Nat.le_trans (lg_le (y := 1000) (by omega) (by omega)) (by decide +kernel)
    have lc2 : lg (((2 * c - 2) * r + 2 : Nat) : Int) ≤ 9 := Nat.le_trans (lg_le (y := 1000) (by omega) (by omega)) (by decide +kernel)
    have m1 := lg_mul (x := (((2 * c - 2) * r + 2 : Nat) : Int)) (y := ((fac (r - 1) : Nat) : Int))
    have hpos : 0 < ((2 * c - 2) * r + 2) * fac (r - 1) := Nat.mul_pos (by omega) (fac_pos _)
    repeat fail "gs"
    refine hi_mulG (by omega) ?_
    repeat fail "gs"
    refine hi_mulG (by omega) ?_
    repeat fail "gs"
    have e8 : (((2 * c - 2) * r + 2 : Nat) : Int) * ((fac (r - 1) : Nat) : Int) = ((((2 * c - 2) * r + 2) * fac (r - 1) : Nat) : Int) := by rw [Int.natCast_mul]
    rw [e8] at m1 ⊢
    refine hi_fdivI (by omega) (by unfold lg at m1 lc2 a2; omega) ?_
    refine ⟨?_, Pre.refl⟩
    have e9 : r - 1 + 1 = r := by omega
    rw [form, e9, Int.natCast_ediv, Int.natCast_mul (2 * c) (ffac _ _)]
/-! ### the law -/
theorem at_rangeG {α : Type} {f : Nat → α} {n i : Nat} (h : i < n) : ((List.range n).map f)[i]? = some (f i) := by
  rw [List.getElem?_map, List.getElem?_range h]; rfl
def tabs : List (Nat × Nat) := [(1, 6), (2, 5), (3, 4), (4, 3)]
theorem tab_eq {c m n : Nat} (h : (c, m) ∈ tabs) (hn : n < m) : (lv c n).length = form c n ∧ (lv c n).length ≤ 500 := by
  have key : ∀ (m : Nat) (l : List Nat), (List.range m).map (fun n => (lv c n).length) = l → (List.range m).map (fun n => form c n) = l → l.all (fun x => Nat.ble x 500) = true → ∀ n, n < m → (lv c n).length = form c n ∧ (lv c n).length ≤ 500 := by
    intro m l e1 e2 e3 n hn
    have f1 : l[n]? = some (lv c n).length := by rw [← e1, at_range hn]
    have f2 : l[n]? = some (form c n) := by rw [← e2, at_range hn]
    have f3 := List.all_eq_true.mp e3 _ (List.mem_of_getElem? f1)
    exact ⟨Option.some.inj (f1.symm.trans f2), Nat.le_of_ble_eq_true f3⟩
  unfold tabs at h
  simp only [List.mem_cons, Prod.mk.injEq, List.not_mem_nil, or_false] at h
  rcases h with ⟨rfl, rfl⟩ | ⟨rfl, rfl⟩ | ⟨rfl, rfl⟩ | ⟨rfl, rfl⟩
  · exact key _ _ cnt1 (by decide +kernel) (by decide +kernel) n hn
  · exact key _ _ cnt2 (by decide +kernel) (by decide +kernel) n hn
  · exact key _ _ cnt3 (by decide +kernel) (by decide +kernel) n hn
  · exact key _ _ cnt4 (by decide +kernel) (by decide +kernel) n hn
theorem form_lg {c s : Nat} (h1 : 1 ≤ c) (h4 : c ≤ 4) (hs : s < 100) : lg ((form c s : Nat) : Int) < 1200 := by
  have := R_lt h1 h4 (Nat.le_refl _) hs
  rw [R_form h1 h4 hs] at this
  unfold BIG at this
  exact lg_of (by decide) (by rw [Int.natAbs_natCast]; exact this)
theorem many_good {c r : Nat} (h1 : 1 ≤ c) (h4 : c ≤ 4) (hr1 : 1 ≤ r) (hr2 : r ≤ 100) : Good (.int ((r * form c (r - 1) : Nat) : Int)) := by
  have a := form_lg (c := c) (s := r - 1) h1 h4 (by omega)
  have lr : lg (r : Int) ≤ 9 := Nat.le_trans (lg_le (y := 1000) (by omega) (by omega)) (by decide +kernel)
  have m := lg_mul (x := (r : Int)) (y := ((form c (r - 1) : Nat) : Int))
  refine good_int ?_
  rw [Int.natCast_mul]
  omega
def tblS : List S := [.set (.name 5) (.bin .mul (.var 4) (.idx (.var 3) (.bin .sub (.var 4) (.cst (.int 1))))),
      .ifs (.or (.cmp .ne (.bi .repr [(.call 3 [(.var 1), (.var 4)])]) (.bi .repr [(.var 5)])) (.cmp .ne (.idx (.var 3) (.bin .sub (.var 4) (.cst (.int 1)))) (.call 11 [(.var 1), (.var 4)])))
        [.ret (.cst (.bl false))]
        []]
theorem s_tbl {n c m f k : Nat} {st : Sto} {x0 x5 x6 x7 x8 x9 x10 x11 : Option D} (h : (c, m) ∈ tabs) (hk1 : 1 ≤ k) (hk : k ≤ m) (hf : st[f]? = some (.lst (((List.range m).map fun n => ((lv c n).length : Int)).map D.int))) :
    Hi (denSs (callN FT (n + 4)) tblS [x0, some (.int (c : Nat)), some (.int (m : Nat)), some (.ref f), some (.int (k : Nat)), x5, x6, x7, x8, x9, x10, x11] st) (fun fl st' => st' = st ∧ ∃ y5, fl = .nx [x0, some (.int (c : Nat)), some (.int (m : Nat)), some (.ref f), some (.int (k : Nat)), y5, x6, x7, x8, x9, x10, x11]) NX := by
  have hc : 1 ≤ c ∧ c ≤ 4 ∧ m ≤ 6 := by
    unfold tabs at h
    simp only [List.mem_cons, Prod.mk.injEq, List.not_mem_nil, or_false] at h
    omega
  obtain ⟨hc1, hc4, hm⟩ := hc
  obtain ⟨t1, t2⟩ := tab_eq h (n := k - 1) (by omega)
  have ek : (k : Int) - 1 = ((k - 1 : Nat) : Int) := by omega
  have hx : (((List.range m).map fun n => ((lv c n).length : Int)).map D.int)[k - 1]? = some (.int ((form c (k - 1) : Nat) : Int)) := by
    rw [List.getElem?_map, at_rangeG (by omega), t1]
    rfl
  have hp : place (((List.range m).map fun n => ((lv c n).length : Int)).map D.int).length ((k - 1 : Nat) : Int) = some (k - 1) := place_nat (by simp; omega)
  have lk : lg (k : Int) ≤ 9 := Nat.le_trans (lg_le (y := 1000) (by omega) (by omega)) (by decide +kernel)
  have lf := form_lg (c := c) (s := k - 1) hc1 hc4 (by omega)
  unfold tblS
  repeat fail "gs"
  rw [ek]
  refine hi_idxL hf hp hx ?_
  refine hi_mulG (by omega) ?_
  have em : (k : Int) * ((form c (k - 1) : Nat) : Int) = ((k * form c (k - 1) : Nat) : Int) := by rw [Int.natCast_mul]
  rw [em]
  repeat fail "gs"
  refine hi_ifs ?_
  refine Hi.cutV (.bl false) st ?_ ?_
  · refine hi_or ?_
    refine Hi.cutV (.bl false) st ?_ ?_
    · repeat fail "gs"
      refine Hi.eqc (s_many n c k st hc1 hc4 hk1 (by omega)) ?_
      repeat fail "gs"
      refine hi_reprG rfl (many_good hc1 hc4 hk1 (by omega)) ?_
      repeat fail "gs"
      refine hi_reprG rfl (many_good hc1 hc4 hk1 (by omega)) ?_
      refine hi_neSame (many_good hc1 hc4 hk1 (by omega)).cps ?_
      exact ⟨rfl, rfl⟩
    · repeat fail "gs"
      refine ⟨fun _ => ?_, fun h => nomatch h⟩
      repeat fail "gs"
      rw [ek]
      refine hi_idxL hf hp hx ?_
      repeat fail "gs"
      refine Hi.eqc (s_form (n + 3) c k st hc1 hc4 hk1 (by omega)) ?_
      repeat fail "gs"
      exact ⟨by simp, rfl⟩
  · repeat fail "gs"
    exact ⟨rfl, _, rfl⟩
end K65

set_option Elab.async false
set_option linter.all false
set_option maxRecDepth 100000
set_option maxHeartbeats 1000000
/-! K65: the law, whole. -/
namespace K65
open Mi
local macro_rules | `(tactic| fail "go") => `(tactic| first
  | with_reducible refine hi_cst ?_
  | with_reducible refine hi_var (by with_unfolding_all exact rfl) ?_
  | with_reducible refine hi_bin ?_ | with_reducible refine hi_cmp ?_ | with_reducible refine hi_idx ?_
  | with_reducible refine hi_callE ?_ | with_reducible refine hi_bi ?_ | with_reducible refine hi_dcons ?_ | with_reducible refine hi_dnil ?_
  | with_reducible refine hi_tup ?_ | with_reducible refine hi_lst ?_ | with_reducible refine hi_dic ?_ | with_reducible refine hi_neg ?_ | with_reducible refine hi_not ?_
  | with_reducible refine hi_and ?_ | with_reducible refine hi_or ?_ | with_reducible refine hi_ite ?_ | with_reducible refine hi_chain ?_
  | with_reducible refine hi_slice ?_ | with_reducible refine hi_onone ?_ | with_reducible refine hi_osome ?_ | with_reducible refine hi_meth ?_
  | with_reducible refine hi_isI ?_ | with_reducible refine hi_isX ?_ | with_reducible refine hi_val ?_ | with_reducible refine hi_heard ?_
  | with_reducible refine hi_addI ?_ | with_reducible refine hi_subI ?_ | with_reducible refine hi_ltI ?_ | with_reducible refine hi_leI ?_ | with_reducible refine hi_gtI ?_ | with_reducible refine hi_geI ?_ | with_reducible refine hi_eqI ?_ | with_reducible refine hi_neI ?_
  | with_reducible refine Br.mk ?_ | with_reducible refine IsI.mk ?_
  | with_reducible refine hi_ret ?_ | with_reducible refine hi_raise ?_ | with_reducible refine hi_expr ?_ | with_reducible refine hi_ifs ?_ | with_reducible refine hi_nil ?_ | with_reducible refine hi_put ?_
  | with_reducible refine hi_set (by with_unfolding_all exact rfl) ?_ | with_reducible refine hi_setG ?_
  | with_reducible refine PutG.mk (by with_unfolding_all exact rfl) ?_ | with_reducible refine Fits.mk (by with_unfolding_all exact rfl) ?_
  | with_reducible refine hi_intI ?_ | with_reducible refine hi_intB ?_ | with_reducible refine hi_absI ?_ | with_reducible refine hi_lenT ?_ | with_reducible refine hi_lenF ?_ | with_reducible refine hi_sliceT ?_ | with_reducible refine hi_max ?_ | with_reducible refine hi_min ?_
  | with_reducible refine hi_rng1 ?_ | with_reducible refine hi_rng2 ?_
  | dsimp only [ct, cf, nt, nf, goOn, retD, List.set_cons_succ, List.set_cons_zero])
local macro_rules | `(tactic| fail "gs") => `(tactic| first
  | with_reducible refine hi_cst ?_
  | with_reducible refine hi_var (by with_unfolding_all exact rfl) ?_
  | with_reducible refine hi_bin ?_ | with_reducible refine hi_cmp ?_ | with_reducible refine hi_idx ?_
  | with_reducible refine hi_callE ?_ | with_reducible refine hi_bi ?_ | with_reducible refine hi_dcons ?_ | with_reducible refine hi_dnil ?_
  | with_reducible refine hi_tup ?_ | with_reducible refine hi_lst ?_ | with_reducible refine hi_dic ?_ | with_reducible refine hi_neg ?_ | with_reducible refine hi_not ?_
  | with_reducible refine hi_slice ?_ | with_reducible refine hi_onone ?_ | with_reducible refine hi_osome ?_ | with_reducible refine hi_meth ?_
  | with_reducible refine hi_isI ?_ | with_reducible refine hi_isX ?_ | with_reducible refine hi_val ?_ | with_reducible refine hi_heard ?_
  | with_reducible refine hi_addI ?_ | with_reducible refine hi_subI ?_ | with_reducible refine hi_ltI ?_ | with_reducible refine hi_leI ?_ | with_reducible refine hi_gtI ?_ | with_reducible refine hi_geI ?_ | with_reducible refine hi_eqI ?_ | with_reducible refine hi_neI ?_
  | with_reducible refine Br.mk ?_ | with_reducible refine IsI.mk ?_
  | with_reducible refine hi_ret ?_ | with_reducible refine hi_raise ?_ | with_reducible refine hi_expr ?_ | with_reducible refine hi_nil ?_ | with_reducible refine hi_put ?_
  | with_reducible refine hi_set (by with_unfolding_all exact rfl) ?_ | with_reducible refine hi_setG ?_
  | with_reducible refine PutG.mk (by with_unfolding_all exact rfl) ?_ | with_reducible refine Fits.mk (by with_unfolding_all exact rfl) ?_
  | with_reducible refine hi_intI ?_ | with_reducible refine hi_intB ?_ | with_reducible refine hi_absI ?_ | with_reducible refine hi_lenT ?_ | with_reducible refine hi_lenF ?_ | with_reducible refine hi_sliceT ?_ | with_reducible refine hi_max ?_ | with_reducible refine hi_min ?_
  | with_reducible refine hi_rng1 ?_ | with_reducible refine hi_rng2 ?_
  | dsimp only [ct, cf, nt, nf, goOn, retD, List.set_cons_succ, List.set_cons_zero])
def errS (v w : Nat) (c : Nat) : S := .ifs (.or (.not (.isX (.var 9) c 3)) (.cmp .ne (.bi .repr [(.val (.var 9) 3)]) (.bi .repr [(.var v)])))
      [.ret (.cst (.bl false))]
      []
def placeS : List S := [.set (.name 7) (.call 5 [(.var 0), (.var 6)]),
    .set (.tup [(.name 1), (.name 4)]) (.tup [(.bi .int [(.bin .add (.cst (.int 1)) (.call 6 [(.var 7), (.cst (.int 4))]))]), (.bi .int [(.bin .add (.cst (.int 1)) (.call 6 [(.var 7), (.cst (.int 100))]))])]),
    .ifs (.cmp .ne (.bi .repr [(.call 3 [(.var 1), (.var 4)])]) (.bi .repr [(.bin .mul (.var 4) (.call 11 [(.var 1), (.var 4)]))]))
      [.ret (.cst (.bl false))]
      [],
    .set (.name 8) (.call 7 [(.var 7), (.lst [(.cst (.int 0)), (.cst (.int 101)), (.neg (.cst (.int 1))), (.cst (.bl true)), (.cst .non), (.cst (.str "1"))])]),
    .set (.tup [(.name 9), (.name 10)]) (.heard (.call 3 [(.var 1), (.var 8)])),
    errS 8 9 2,
    .set (.name 11) (.call 7 [(.var 7), (.lst [(.cst (.int 0)), (.cst (.int 5)), (.cst (.bl true)), (.cst .non)])]),
    .set (.tup [(.name 9), (.name 10)]) (.heard (.call 3 [(.var 11), (.var 8)])),
    errS 11 9 1]
def tabS : List S := [.set (.name 3) (.call 10 [(.var 1), (.var 2)]), .fors (.name 4) (.rng2 (.cst (.int 1)) (.bin .add (.var 2) (.cst (.int 1)))) tblS]
def F12' : Fn := ⟨1, 12, [.fors (.tup [(.name 1), (.name 2)]) (.seq (.tup [(.tup [(.cst (.int 1)), (.cst (.int 6))]), (.tup [(.cst (.int 2)), (.cst (.int 5))]), (.tup [(.cst (.int 3)), (.cst (.int 4))]), (.tup [(.cst (.int 4)), (.cst (.int 3))])])) tabS,
  .fors (.name 6) (.seq (.call 8 [(.var 0), (.cst (.int 4))])) placeS,
  .ret (.cst (.bl true))]⟩
theorem F12_eq : F12 = F12' := rfl
/-- a value that can be drawn as a wrong one -/
def OddOk (v : D) : Prop := ∃ p, (∀ st, snap st deep v = some p) ∧ Good p
theorem odd_int {i : Int} (h : lg i < 1920) : OddOk (.int i) := ⟨.int i, fun _ => rfl, good_int h⟩
theorem odd_bl {b : Bool} : OddOk (.bl b) := ⟨.bool b, fun _ => rfl, good_bool⟩
theorem odd_non : OddOk .non := ⟨.none, fun _ => rfl, good_none⟩
theorem odd_one : OddOk (.str "1") := ⟨.str "1", fun _ => by
  show (if ((PySem.Str.ofString "1").cps.all (· < 0x110000)) = true then some (PySem.PyData.str "1") else none) = _
  rw [if_pos (by decide +kernel)], ⟨rfl, by decide +kernel, by decide +kernel⟩⟩
theorem s_err {Φ : Nat → List D → M D} {v c k : Nat} {ss : List S} {env : Sl} {d : D} {st : Sto} {Q : Fl → Sto → Prop} {X : Nat → D → Sto → Prop} (hc : c < 3) (h9 : env[9]? = some (some (.ref k))) (hv : env[v]? = some (some d)) (hk : st[k]? = some (.exc c d)) (hd : OddOk d) (h : Hi (denSs Φ ss env st) Q X) : Hi (denSs Φ (errS v 9 c :: ss) env st) Q X := by
  obtain ⟨p, hp, hg⟩ := hd
  unfold errS
  refine hi_ifs ?_
  refine Hi.cutV (.bl false) st ?_ ?_
  · refine hi_or ?_
    refine Hi.cutV (.bl false) st ?_ ?_
    · refine hi_not ?_
      refine hi_isX ?_
      refine hi_var h9 ?_
      refine Or.inr ⟨k, c, d, rfl, hk, hc, hc, ?_⟩
      refine Br.mk ⟨?_, rfl⟩
      simp
    · refine Br.mk ⟨fun _ => ?_, fun h => nomatch h⟩
      refine hi_cmp (hi_bi (hi_dcons (hi_val (hi_var h9 ?_))))
      refine ⟨k, c, d, rfl, hk, hc, ?_⟩
      refine hi_dnil ?_
      refine hi_reprG (hp st) hg ?_
      refine hi_bi (hi_dcons (hi_var hv (hi_dnil ?_)))
      refine hi_reprG (hp st) hg ?_
      refine hi_neSame hg.cps ?_
      exact Br.mk ⟨rfl, rfl⟩
  · refine Br.mk ?_
    exact hi_nil h
theorem s_place {n p : Nat} {ns : List Int} {st : Sto} {x1 x2 x3 x4 x5 x7 x8 x9 x10 x11 : Option D} (hp : p ≤ 1000) :
    Hi (denSs (callN FT (n + 4)) placeS [some (.frz (ns.map D.int)), x1, x2, x3, x4, x5, some (.int (p : Nat)), x7, x8, x9, x10, x11] st) (fun fl st' => (∃ y1 y2 y3 y4 y5 y6 y7 y8 y9 y10 y11, fl = .nx [some (.frz (ns.map D.int)), y1, y2, y3, y4, y5, y6, y7, y8, y9, y10, y11]) ∧ ∀ (k : Nat) (o : O), st[k]? = some o → st'[k]? = some o) NX := by
  unfold placeS
  repeat fail "gs"
  refine (pot_ok (i := 5) (FT := FT) (k1 := 12703) (k2 := 431) (k3 := 100943) (k4 := 17609) (k5 := 838) rfl (by decide) (by decide) (by decide) hp (X := NX)).imp ?_ (fun _ _ _ h => h)
  rintro v st1 ⟨q, rfl, hpre, hql, hpot⟩
  have keep1 : ∀ (k : Nat) (o : O), st[k]? = some o → st1[k]? = some o ∧ q ≠ k := by
    intro k o h
    have := get_lt h
    exact ⟨hpre.get h, by omega⟩
  clear hpre hql
  repeat fail "gs"
  refine (take_ok (i := 6) (FT := FT) (k1 := 98011) (k2 := 638) (k3 := 10259) (k4 := 122) (k5 := 152) (n := 4) rfl (by decide) (by decide) (by decide) (by decide) (by decide) hpot (by decide) (by decide)).imp ?_ (fun _ _ _ h => h)
  rintro v st2 ⟨c, a1, b1, c1, rfl, hc0, hc4, rfl, hpot2⟩
  repeat fail "gs"
  refine (take_ok (i := 6) (FT := FT) (k1 := 98011) (k2 := 638) (k3 := 10259) (k4 := 122) (k5 := 152) (n := 100) rfl (by decide) (by decide) (by decide) (by decide) (by decide) hpot2 (by decide) (by decide)).imp ?_ (fun _ _ _ h => h)
  rintro v st3 ⟨r, a2, b2, c2, rfl, hr0, hr4, rfl, hpot3⟩
  have keep3 : ∀ (k : Nat) (o : O), st[k]? = some o → ((st1.set q (O3 a1 b1 c1)).set q (O3 a2 b2 c2))[k]? = some o ∧ q ≠ k := by
    intro k o h
    obtain ⟨h1, h2⟩ := keep1 k o h
    exact ⟨get_set_ne (get_set_ne h1 h2) h2, h2⟩
  clear keep1
  generalize ((st1.set q (O3 a1 b1 c1)).set q (O3 a2 b2 c2)) = st3 at hpot3 keep3
  repeat fail "gs"
  obtain ⟨C, hC⟩ : ∃ C : Nat, 1 + c = (C : Int) := ⟨(1 + c).toNat, by omega⟩
  obtain ⟨R, hR⟩ : ∃ R : Nat, 1 + r = (R : Int) := ⟨(1 + r).toNat, by omega⟩
  rw [hC, hR]
  have C1 : 1 ≤ C := by omega
  have C4 : C ≤ 4 := by omega
  have R1 : 1 ≤ R := by omega
  have R4 : R ≤ 100 := by omega
  have gm := many_good C1 C4 R1 R4
  refine hi_ifs ?_
  refine Hi.cutV (.bl false) st3 ?_ ?_
  · repeat fail "gs"
    refine Hi.eqc (s_many n C R st3 C1 C4 R1 R4) ?_
    repeat fail "gs"
    refine hi_reprG rfl gm ?_
    repeat fail "gs"
    refine Hi.eqc (s_form (n + 3) C R st3 C1 C4 R1 R4) ?_
    have lR : lg (R : Int) ≤ 9 := Nat.le_trans (lg_le (y := 1000) (by omega) (by omega)) (by decide +kernel)
    have lf := form_lg (c := C) (s := R - 1) C1 C4 (by omega)
    refine hi_mulG (by omega) ?_
    have em : (R : Int) * ((form C (R - 1) : Nat) : Int) = ((R * form C (R - 1) : Nat) : Int) := by rw [Int.natCast_mul]
    rw [em]
    repeat fail "gs"
    refine hi_reprG rfl gm ?_
    refine hi_neSame gm.cps ?_
    exact ⟨rfl, rfl⟩
  repeat fail "gs"
  have inC : inR (.int (C : Nat)) 1 4 = true := by simp [inR]; omega
  have hq3 := hpot3.lt
  refine of_ok (i := 6) (FT := FT) (k1 := 98011) (k2 := 638) (k3 := 10259) (k4 := 122) (k5 := 152) rfl rfl (by decide) (by decide) (by decide) (by decide) (by decide) (hpot3.pre Pre.refl.app) (by decide) get_new (by omega) (by simp) (by simp) ?_
  intro odd hodd
  have ho : OddOk odd ∧ plainV odd = true ∧ inR odd 1 100 = false ∧ odd.flat = true := by
    simp only [List.mem_cons, List.not_mem_nil, or_false] at hodd
    rcases hodd with rfl | rfl | rfl | rfl | rfl | rfl
    · exact ⟨odd_int (by decide), rfl, rfl, rfl⟩
    · exact ⟨odd_int (by decide), rfl, rfl, rfl⟩
    · exact ⟨odd_int (by decide), rfl, rfl, rfl⟩
    · exact ⟨odd_bl, rfl, rfl, rfl⟩
    · exact ⟨odd_non, rfl, rfl, rfl⟩
    · exact ⟨odd_one, rfl, rfl, rfl⟩
  obtain ⟨ho1, ho2, ho3, ho4⟩ := ho
  refine ⟨ho4, ?_⟩
  intro a3 b3 c3 hpot4
  have keep4 : ∀ (k : Nat) (o : O), st[k]? = some o → ((st3 ++ [O.lst [D.int 0, D.int 101, D.int (-1), D.bl true, D.non, D.str "1"]]).set q (O3 a3 b3 c3))[k]? = some o ∧ q ≠ k := by
    intro k o h
    obtain ⟨h1, h2⟩ := keep3 k o h
    exact ⟨get_set_ne (get_app h1) h2, h2⟩
  clear keep3 hodd
  generalize ((st3 ++ [O.lst [D.int 0, D.int 101, D.int (-1), D.bl true, D.non, D.str "1"]]).set q (O3 a3 b3 c3)) = st4 at hpot4 keep4
  repeat fail "gs"
  rw [s_many_badn n _ _ _ rfl inC ho2 ho3]
  refine Hi.excI ?_
  repeat fail "gs"
  refine s_err (k := st4.length) (d := odd) (by decide) rfl rfl get_new ho1 ?_
  repeat fail "gs"
  have hq4 := hpot4.lt
  refine of_ok (i := 6) (FT := FT) (k1 := 98011) (k2 := 638) (k3 := 10259) (k4 := 122) (k5 := 152) rfl rfl (by decide) (by decide) (by decide) (by decide) (by decide) (hpot4.pre Pre.refl.app.app) (by decide) get_new (by simp; omega) (by simp) (by simp) ?_
  intro bad hbad
  have hb : OddOk bad ∧ plainV bad = true ∧ inR bad 1 4 = false ∧ bad.flat = true := by
    simp only [List.mem_cons, List.not_mem_nil, or_false] at hbad
    rcases hbad with rfl | rfl | rfl | rfl
    · exact ⟨odd_int (by decide), rfl, rfl, rfl⟩
    · exact ⟨odd_int (by decide), rfl, rfl, rfl⟩
    · exact ⟨odd_bl, rfl, rfl, rfl⟩
    · exact ⟨odd_non, rfl, rfl, rfl⟩
  obtain ⟨hb1, hb2, hb3, hb4⟩ := hb
  refine ⟨hb4, ?_⟩
  intro a5 b5 c5 hpot5
  have keep5 : ∀ (k : Nat) (o : O), st[k]? = some o → ((st4 ++ [O.exc 2 odd] ++ [O.lst [D.int 0, D.int 5, D.bl true, D.non]]).set q (O3 a5 b5 c5))[k]? = some o := by
    intro k o h
    obtain ⟨h1, h2⟩ := keep4 k o h
    exact get_set_ne (get_app (get_app h1)) h2
  clear keep4 hbad
  generalize ((st4 ++ [O.exc 2 odd] ++ [O.lst [D.int 0, D.int 5, D.bl true, D.non]]).set q (O3 a5 b5 c5)) = st5 at hpot5 keep5
  repeat fail "gs"
  rw [s_many_badc n _ _ _ hb2 hb3 ho4]
  refine Hi.excI ?_
  repeat fail "gs"
  refine s_err (k := st5.length) (d := bad) (by decide) rfl rfl get_new hb1 ?_
  refine hi_nil ⟨⟨_, _, _, _, _, _, _, _, _, _, _, rfl⟩, ?_⟩
  intro k o h
  exact get_app (keep5 k o h)
theorem plain (ns : List Int) (h : ns.length ≤ 63) (hb : ∀ z ∈ ns, PySem.Builtin.Int.intBits z ≤ 1048576) : ∃ st, callN FT (9 + 1) 12 [.frz (ns.map D.int)] [] = .ok (.bl true) st := by
  refine Hi.ex ?_
  refine hi_call (f := F12') [some (.frz (ns.map D.int)), none, none, none, none, none, none, none, none, none, none, none] rfl rfl (by decide) rfl ?_
  unfold F12'
  refine hi_forP (t := .sq (.tup (tabs.map fun p => .tup [.int (p.1 : Nat), .int (p.2 : Nat)]))) (st1 := []) tabs (fun p => .tup [.int (p.1 : Nat), .int (p.2 : Nat)]) (fun zs env st => ∃ y1 y2 y3 y4 y5 y6 y7 y8 y9 y10 y11, env = [some (.frz (ns.map D.int)), y1, y2, y3, y4, y5, y6, y7, y8, y9, y10, y11]) ?_ ?_ ?_ ?_ ?_ ?_
  · refine hi_seqT ?_
    repeat fail "gs"
    exact ⟨_, rfl, rfl, rfl⟩
  · rintro zs env st i hJ hi
    exact tup_at
  · exact (by decide : 4 < 1000000000)
  · rintro zs ⟨c, m⟩ ws env st hy ⟨y1, y2, y3, y4, y5, y6, y7, y8, y9, y10, y11, rfl⟩
    refine ⟨_, rfl, ?_⟩
    dsimp only [List.set_cons_succ, List.set_cons_zero]
    have hmem : (c, m) ∈ tabs := by rw [hy]; simp
    have hc : 1 ≤ c ∧ c ≤ 4 ∧ m ≤ 6 := by
      unfold tabs at hmem
      simp only [List.mem_cons, Prod.mk.injEq, List.not_mem_nil, or_false] at hmem
      omega
    obtain ⟨hc1, hc4, hm⟩ := hc
    unfold tabS
    repeat fail "gs"
    refine (s_lots 7 c m st hc4 (by omega) (fun n hn => (tab_eq hmem hn).2) (X := NX)).imp ?_ (fun _ _ _ h => h.elim)
    rintro v st1 ⟨f, rfl, hpre, hfl, hf⟩
    repeat fail "gs"
    refine hi_for (t := .rng 1 m) (st1 := st1) (rngL 1 m) (fun i env s => s = st1 ∧ ∃ z4 z5, env = [some (.frz (ns.map D.int)), some (.int (c : Nat)), some (.int (m : Nat)), some (.ref f), z4, z5, y6, y7, y8, y9, y10, y11]) ?_ (fun _ _ _ _ _ => rng_at) ?_ ?_ ?_ ?_
    · have s2 : small ((m : Int) + 1) = true := by
        have := small_nat (n := m + 1) (by omega)
        simpa using this
      have n1 : ((m : Int) + 1 - 1).toNat = m := by omega
      repeat fail "gs"
      exact ⟨_, _, rfl, rfl, by decide, s2, by rw [n1], rfl⟩
    · rw [rngL_len]; omega
    · rintro i x env s hx ⟨rfl, z4, z5, rfl⟩
      rw [rngL_get] at hx
      split at hx <;> rename_i hi
      case isFalse => exact nomatch hx
      cases hx
      refine ⟨_, rfl, ?_⟩
      dsimp only [List.set_cons_succ, List.set_cons_zero]
      have e1 : (1 + (i : Int)) = ((i + 1 : Nat) : Int) := by omega
      rw [e1]
      refine (s_tbl (n := 5) hmem (by omega) (by omega) hf).imp ?_ (fun _ _ _ h => h.elim)
      rintro fl s' ⟨rfl, w5, rfl⟩
      exact ⟨rfl, _, _, rfl⟩
    · exact ⟨rfl, _, _, rfl⟩
    · rintro env s ⟨rfl, z4, z5, rfl⟩
      exact hi_nil ⟨_, _, _, _, _, _, _, _, _, _, _, rfl⟩
  · exact ⟨_, _, _, _, _, _, _, _, _, _, _, rfl⟩
  · rintro env st ⟨y1, y2, y3, y4, y5, y6, y7, y8, y9, y10, y11, rfl⟩
    have hpl := places_ok (FT := FT) (d := 8) (i := 8) (most := 4) (st := st) (ns := ns) (X := NX) rfl (by decide)
    obtain ⟨v, st1, e, n, hn, rfl, rfl⟩ : ∃ v st1, callN FT 9 8 [.frz (ns.map D.int), .int ((4 : Nat) : Int)] st = .ok v st1 ∧ ∃ n, n ≤ max 1 4 ∧ v = .ref st.length ∧ st1 = st ++ [.lst ((List.range n).map fun i => .int (i : Nat))] := by
      cases hh : callN FT 9 8 [.frz (ns.map D.int), .int ((4 : Nat) : Int)] st with
      | ok v st1 =>
        rw [show (8 : Nat) + 1 = 9 from rfl, hh] at hpl
        exact ⟨v, st1, rfl, hpl.okD⟩
      | exc c v s => rw [show (8 : Nat) + 1 = 9 from rfl, hh] at hpl; exact hpl.excD.elim
      | no => rw [show (8 : Nat) + 1 = 9 from rfl, hh] at hpl; exact hpl.noD.elim
    refine hi_forP (t := .sq (.ref st.length)) (st1 := st ++ [.lst ((List.range n).map fun i => .int (i : Nat))]) (List.range n) (fun i => .int (i : Nat)) (fun zs env s => (∃ y1 y2 y3 y4 y5 y6 y7 y8 y9 y10 y11, env = [some (.frz (ns.map D.int)), y1, y2, y3, y4, y5, y6, y7, y8, y9, y10, y11]) ∧ s[st.length]? = some (.lst ((List.range n).map fun i => .int (i : Nat)))) ?_ ?_ ?_ ?_ ?_ ?_
    · refine hi_seqL ?_
      repeat fail "gs"
      refine Hi.eqc e ?_
      exact ⟨_, _, rfl, get_new, rfl, rfl⟩
    · rintro zs env s i ⟨_, hk⟩ hi
      exact ref_at hk
    · rw [List.length_range]; omega
    · rintro zs p ws env s hy ⟨⟨z1, z2, z3, z4, z5, z6, z7, z8, z9, z10, z11, rfl⟩, hk⟩
      refine ⟨_, rfl, ?_⟩
      dsimp only [List.set_cons_succ, List.set_cons_zero]
      have hp : p < n := by
        have : p ∈ List.range n := by rw [hy]; simp
        exact List.mem_range.mp this
      refine (s_place (n := 5) (by omega)).imp ?_ (fun _ _ _ h => h.elim)
      rintro fl s' ⟨⟨w1, w2, w3, w4, w5, w6, w7, w8, w9, w10, w11, rfl⟩, hkeep⟩
      exact ⟨⟨_, _, _, _, _, _, _, _, _, _, _, rfl⟩, hkeep _ _ hk⟩
    · exact ⟨⟨_, _, _, _, _, _, _, _, _, _, _, rfl⟩, get_new⟩
    · rintro env s ⟨⟨z1, z2, z3, z4, z5, z6, z7, z8, z9, z10, z11, rfl⟩, hk⟩
      repeat fail "gs"
      obtain ⟨s', hs'⟩ := tidy_ok (v := .bl true) (st := []) (s := s)
      refine Hi.eqc hs' rfl
end K65

set_option Elab.async false
set_option linter.all false
set_option maxRecDepth 100000
set_option maxHeartbeats 0
/-! K65, the head. -/
namespace K65
open PySem PySem.Spec PyProof.Rows L2 Mi
abbrev ti : Stmt := inClass (top 4) 0
def dInit : He.DefD := ⟨(("ThreadError" : Str), some ("__init__" : Str)), "__init__", "ThreadError.__init__", defArgs ti, defBody ti, defScope ti, [], []⟩
def dHear : Dd := ⟨"_law_heard", defArgs (top 20), defBody (top 20), defScope (top 20), ["call"], ["call", "caught", "back", "error"], none⟩
def tf : List He.Defn := [(("law" : Str), none)]
def L : Law := ⟨ds, c0, FT, ["ThreadError", "BadColours", "BadNumber"], tf, dInit, dHear⟩
theorem initOk : InitOk dInit where
  at_ := rfl
  dfl := rfl
  kwd := rfl
  sc := ⟨by kernel_rfl, by kernel_rfl, by kernel_rfl, by decide +kernel, rfl, by decide +kernel, by decide +kernel⟩
  body := ⟨_, _, _, _, _, _, _, _, _, _, rfl, by kernel_rfl⟩
  gl := by kernel_rfl
  ls := by kernel_rfl
  lv := by kernel_rfl
  bd := fun _ _ _ _ _ _ us hl => match us, hl with | [_, _], _ => rfl
theorem lawOk : LawOk L where
  scs := scs
  hF := hF
  bds := bds
  hn := hn
  cons := by kernel_rfl
  x0 := rfl
  nx := rfl
  exs := by kernel_rfl
  hds := by kernel_rfl
  tfn := by kernel_rfl
  init := initOk
  hsc := by kernel_rfl
  hbd := fun _ _ _ _ _ _ us hl => match us, hl with | [_], _ => rfl
  hN := rfl
  hps := rfl
  hbody := ⟨hpp dHear.body, hkk dHear.body, by kernel_rfl⟩
  hlk := ⟨by kernel_rfl, by kernel_rfl, by kernel_rfl, by kernel_rfl, by kernel_rfl⟩
abbrev Rrow : PySem.W.OpenRow := PySem.W.OpenLaw.row PySem.Challenge.rw_bythethread_k65_whole_traces_counted
abbrev hk : PySem.W.Hook := He.hookX 6 L.fa L.fn [] L.tf L.ex
def ob (s : PySem.W.SharedT) : He.AlX := He.obsX 6 L.fa L.fn [] L.tf L.ex (HandSHeadRun.getT s)
theorem ob_eq (s : PySem.W.SharedT) : ob s = hk.obs s.abs := He.obsX_eq (HandSHeadRun.getT_eq s)
theorem run (w : World) : HandSHeadRun.RunEq Rrow (PySem.W.view Rrow.prog [24]) hk ob 4000 ["__name__", "is_whole", "is_integer", "ThreadError", "BadColours", "BadNumber", "MOST_COLOURS", "check_colours", "MOST_COUNT", "PAIR", "many_traces", "powers", "_law_pot", "_law_take", "_law_of", "_law_places", "_law_heard", "_law_steps", "_law_lots", "_law_by_formula"] w := by
  intro os
  kernel_rfl
end K65

set_option Elab.async false
set_option linter.all false
set_option maxRecDepth 100000
set_option maxHeartbeats 0
namespace K65
open PySem PySem.Spec PyProof.Rows L2 Mi
end K65
open PySem PySem.W PySem.Calls PyProof.Rows
theorem PySem.Challenge.cw_bythethread_k65_whole_traces_counted_holds : PySem.Challenge.rw_bythethread_k65_whole_traces_counted.Holds := by
  w_on; o_law
  refine HandSHeadRun.head_any (r := OpenLaw.row PySem.Challenge.rw_bythethread_k65_whole_traces_counted) (q := view (OpenLaw.row PySem.Challenge.rw_bythethread_k65_whole_traces_counted).prog [24]) (H := K65.hk) (ob := K65.ob) (M := 4000) (loose := _) (d := HandSHeadRun.topDef (OpenLaw.row PySem.Challenge.rw_bythethread_k65_whole_traces_counted).prog 24) (kwd := []) K65.ob_eq
    (by kernel_rfl) (fun s => by kernel_rfl) K65.run (by kernel_rfl) (by kernel_rfl) (by kernel_rfl) (by rfl) (by first | assumption | decide +kernel) (by decide +kernel) ⟨rfl, rfl, rfl, rfl, rfl, by decide +kernel⟩ ?hw ?hc
  case hw => w_witness2
  case hc =>
    refine Mi.walk_ofG (l := PySem.Challenge.rw_bythethread_k65_whole_traces_counted) (n := 63) (k := 4 * (9 + 1) + 1) (x := "script") rfl (by decide) (by kernel_rfl) ⟨rfl, by decide, by decide⟩ ?F
    intro w mg fa h Y G hmg0
    obtain ⟨K, KX, c⟩ := Y
    have hmg : mg ("law" : PySem.Str) = some (.ref fa) := by
      have e : (HandSHeadRun.topDef (OpenLaw.row PySem.Challenge.rw_bythethread_k65_whole_traces_counted).prog 24).name = ("law" : PySem.Str) := by kernel_rfl
      rw [← e]
      exact hmg0
    exact ⟨K, KX, Mi.law_at K65.lawOk c KX G (i := 12) (d := K65.d12) rfl hmg rfl K65.plain⟩
