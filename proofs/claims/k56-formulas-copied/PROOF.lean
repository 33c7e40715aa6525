import PyProof.Rows.All
import Wide.All
import OpenK.AllK
import Wide.FinOn
import HandS.ForMost
import HandS.Wide
import HandS.TupAny
import HandS.IsInst
import KE.SortData
import HandS.Deep
import HandS.RaiseMore
import HandS.Flow
import HandS.Defaults
import HandS.Ends
import HandS.EndBits
import HandS.HeadHook4
import HandS.Head0
import HandS.Head1
import HandS.Head2
import KE.KStateDown
import Lean
import HandS.HeadEnd
import PySem.Challenge.RW_freshsheet_k56_formulas_copied
import PyProof.ReprLen
set_option Elab.async false
set_option linter.all false
set_option maxRecDepth 100000
/-! Iv, part A: values, objects, the small language, its evaluation. -/
namespace Iv
open PySem L2

/-- a value: lists and dicts among these never change (scr: a list that is read alone); ref n: the n-th object of the store -/
inductive D where
  | non | bl (b : Bool) | int (i : Int) | str (x : Str)
  | tup (xs : List D) | lst (xs : List D) | scr (xs : List D) | dct (t : Bool) (kvs : List (D × D)) | ref (n : Nat)
deriving Inhabited

mutual
def D.beq : D → D → Bool
  | .non, .non => true
  | .bl a, .bl b => a == b
  | .int a, .int b => decide (a = b)
  | .str a, .str b => decide (a = b)
  | .tup a, .tup b => D.beqs a b
  | .lst a, .lst b => D.beqs a b
  | .scr a, .scr b => D.beqs a b
  | .dct s a, .dct t b => s == t && D.beqp a b
  | .ref a, .ref b => decide (a = b)
  | _, _ => false
def D.beqs : List D → List D → Bool
  | [], [] => true
  | a :: r, b :: t => D.beq a b && D.beqs r t
  | _, _ => false
def D.beqp : List (D × D) → List (D × D) → Bool
  | [], [] => true
  | (a, c) :: r, (b, e) :: t => D.beq a b && (D.beq c e && D.beqp r t)
  | _, _ => false
end
mutual
theorem D.beq_ok : ∀ {a b : D}, D.beq a b = true → a = b
  | .non, b, h => by cases b <;> simp_all [D.beq]
  | .bl _, b, h => by cases b <;> simp_all [D.beq]
  | .int _, b, h => by cases b <;> simp_all [D.beq]
  | .str _, b, h => by cases b <;> simp_all [D.beq]
  | .ref _, b, h => by cases b <;> simp_all [D.beq]
  | .tup xs, b, h => by cases b <;> first | (simp [D.beq] at h; done) | (simp only [D.beq] at h; rw [D.beqs_ok h])
  | .lst xs, b, h => by cases b <;> first | (simp [D.beq] at h; done) | (simp only [D.beq] at h; rw [D.beqs_ok h])
  | .scr xs, b, h => by cases b <;> first | (simp [D.beq] at h; done) | (simp only [D.beq] at h; rw [D.beqs_ok h])
  | .dct s xs, b, h => by
    cases b <;> first
      | (simp [D.beq] at h; done)
      | (simp only [D.beq, Bool.and_eq_true, beq_iff_eq] at h; obtain ⟨h1, h2⟩ := h; rw [h1, D.beqp_ok h2])
theorem D.beqs_ok : ∀ {a b : List D}, D.beqs a b = true → a = b
  | [], b, h => by cases b <;> simp_all [D.beqs]
  | a :: r, b, h => by
    cases b with
    | nil => simp [D.beqs] at h
    | cons b t =>
      simp only [D.beqs, Bool.and_eq_true] at h
      rw [D.beq_ok h.1, D.beqs_ok h.2]
theorem D.beqp_ok : ∀ {a b : List (D × D)}, D.beqp a b = true → a = b
  | [], b, h => by cases b <;> simp_all [D.beqp]
  | (a, c) :: r, b, h => by
    cases b with
    | nil => simp [D.beqp] at h
    | cons b t =>
      obtain ⟨b, e⟩ := b
      simp only [D.beqp, Bool.and_eq_true] at h
      rw [D.beq_ok h.1, D.beq_ok h.2.1, D.beqp_ok h.2.2]
end
mutual
theorem D.beq_rfl : ∀ a : D, D.beq a a = true
  | .non => rfl
  | .bl _ => by simp [D.beq]
  | .int _ => by simp [D.beq]
  | .str _ => by simp [D.beq]
  | .ref _ => by simp [D.beq]
  | .tup xs => by rw [D.beq]; exact D.beqs_rfl xs
  | .lst xs => by rw [D.beq]; exact D.beqs_rfl xs
  | .scr xs => by rw [D.beq]; exact D.beqs_rfl xs
  | .dct s xs => by rw [D.beq, D.beqp_rfl xs]; simp
theorem D.beqs_rfl : ∀ a : List D, D.beqs a a = true
  | [] => rfl
  | a :: r => by rw [D.beqs, D.beq_rfl a, D.beqs_rfl r]; rfl
theorem D.beqp_rfl : ∀ a : List (D × D), D.beqp a a = true
  | [] => rfl
  | (a, c) :: r => by rw [D.beqp, D.beq_rfl a, D.beq_rfl c, D.beqp_rfl r]; rfl
end
instance : DecidableEq D := fun a b => if h : D.beq a b = true then .isTrue (D.beq_ok h) else .isFalse fun e => h (e ▸ D.beq_rfl a)

/-- an object that may change -/
inductive Ob where
  | lst (xs : List D) | dct (t : Bool) (kvs : List (D × D)) | ins (c : Nat) (fs : List (Str × D))
deriving Inhabited

/-- what an expression yields, what a name holds: a value, or a list or dict that nobody else has -/
inductive Rv where
  | val (d : D) | lst (xs : List D) | dct (t : Bool) (kvs : List (D × D))
deriving Inhabited
def Rv.d : Rv → D
  | .val d => d
  | .lst xs => .lst xs
  | .dct t kvs => .dct t kvs

abbrev Env := List (Option Rv)
abbrev Sto := List Ob

/-! ### the language -/
inductive Bop where
  | add | sub | mul | fdv | mod | pow | shl | shr
deriving DecidableEq
inductive Cop where
  | eq | ne | lt | le | gt | ge | isN | notN | inn | nin
deriving DecidableEq
/-- a built-in function or class called by its name -/
inductive Blt where
  | len | int | list | tuple | sorted | str | isList | isBool
deriving DecidableEq
/-- a built-in method whose value is wanted -/
inductive Mth where
  | get | popAt | pop | popKey | setdefault
deriving DecidableEq
mutual
inductive E where
  | var (i : Nat) | con (d : D) | glo (x : Str) (d : D)
  | tup (es : Es) | lst (es : Es) | dic (t : Bool) | pro (e : E)
  | bop (o : Bop) (a b : E) | neg (a : E) | nt (a : E) | cmp (o : Cop) (a b : E) | chain (o p : Cop) (a b c : E)
  | and (a b : E) | or (a b : E)
  | ix (a i : E) | sl (a : E) (lo hi : Eo)
  | call (f : Nat) (es : Es) | blt (b : Blt) (es : Es) | mth (m : Mth) (o : E) (es : Es)
  | att (o : E) (f : Str) | met (o : E) (c : Nat) (m : Str) (es : Es) | new (c : Nat) (es : Es)
  | lc (vs : List Nat) (t : T) (it : It) (c : Eo) (e : E)
inductive Es where
  | nil | cons (e : E) (es : Es)
inductive Eo where
  | non | som (e : E)
/-- a target -/
inductive T where
  | nm (i : Nat) | ix (o k : E) | tup (ts : Ts)
inductive Ts where
  | nil | cons (t : T) (ts : Ts)
/-- what is walked -/
inductive It where
  | seq (e : E) | rng1 (a : E) | rng2 (a b : E)
end
mutual
inductive S where
  | asg (i : Nat) (e : E) | asgO (i : Nat) (e : E) | tgt (t : T) (e : E) | par (i j : Nat) (a b : E)
  | satt (o : E) (f : Str) (v : E)
  | ifs (c : E) (a b : Ss) | whl (c : E) (b : Ss) | for_ (t : T) (it : It) (b : Ss)
  | ret (e : E) | retV (i : Nat) | retN | ex (e : E) | app (o v : E) | clr (o : E) | share (i : Nat) | pass | brk | cnt
inductive Ss where
  | nil | cons (s : S) (r : Ss)
end

/-! ### evaluation -/
/-- what is called: defs by their number, instances made, methods -/
structure Calls where
  call : Nat → List D → Sto → Option (Rv × Sto)
  make : Nat → List D → Sto → Option (Rv × Sto)
  meth : Nat → Str → List D → Sto → Option (Rv × Sto)

def keyK : D → Option Key
  | .int i => some (.inl i)
  | .str x => some (.inr x)
  | _ => none
def keysK : List D → Option (List Key)
  | [] => some []
  | d :: r => (keyK d).bind fun k => (keysK r).map fun l => k :: l
def keyT : D → Option (List Key)
  | .tup xs => keysK xs
  | _ => none

/-! a value as data, as == and the sort read it -/
mutual
def D.py : D → Option PyData
  | .non => some .none
  | .bl b => some (.bool b)
  | .int i => some (.int i)
  | .str x => some (.str x)
  | .tup xs => (D.pys xs).map .tuple
  | .lst xs => (D.pys xs).map .list
  | .scr xs => (D.pys xs).map .list
  | .dct _ _ => none
  | .ref _ => none
def D.pys : List D → Option (List PyData)
  | [] => some []
  | d :: r => (D.py d).bind fun x => (D.pys r).map fun l => x :: l
end

/-- the items of a list or tuple -/
def items (st : Sto) : D → Option (List D)
  | .lst xs => some xs
  | .scr xs => some xs
  | .tup xs => some xs
  | .ref n => match st[n]? with
    | some (.lst xs) => some xs
    | _ => none
  | _ => none
/-- what a name's list or dict is read as, for the moment -/
def pk (e : E) (env : Env) (st : Sto) (r : Option (Rv × Sto)) : Option (D × Sto) := match e with
  | .var i => match env[i]? with
    | some (some r) => some (r.d, st)
    | _ => none
  | _ => r.map fun p => (p.1.d, p.2)
def tru (st : Sto) : D → Option Bool
  | .non => some false
  | .bl b => some b
  | .int i => some (i != 0)
  | .str x => if x.length ≤ 16777216 then some (x.length != 0) else none
  | d => (items st d).map fun xs => !xs.isEmpty

def small (i : Int) : Bool := decide (-(2 ^ 64) < i) && decide (i < 2 ^ 64)
def bopR (o : Bop) (x y : D) : Option Rv := match o, x, y with
  | .add, .int i, .int j => some (.val (.int (i + j)))
  | .add, .str a, .str b => if a.length + b.length ≤ 16777216 then some (.val (.str (a ++ b))) else none
  | .add, .tup a, .tup b => if a.length + b.length ≤ 16777216 then some (.val (.tup (a ++ b))) else none
  | .add, .lst a, .lst b => if a.length + b.length ≤ 16777216 then some (.lst (a ++ b)) else none
  | .sub, .int i, .int j => some (.val (.int (i - j)))
  | .mul, .int i, .int j => if small i || small j || decide (i.natAbs.log2 + j.natAbs.log2 < 1000000) then some (.val (.int (i * j))) else none
  | .fdv, .int i, .int j => if decide (0 < j) && decide (j.natAbs.log2 < 9000) then some (.val (.int (i / j))) else none
  | .mod, .int i, .int j => if 0 < j then some (.val (.int (i % j))) else none
  | .pow, .int i, .int j => if decide (0 ≤ j) && (decide (j ≤ 1000000) && decide (i.natAbs < 2 ^ 64)) then some (.val (.int (i ^ j.toNat))) else none
  | .shl, .int i, .int j => if decide (0 ≤ j) && (decide (j ≤ 1000000) && decide (i.natAbs < 2 ^ 64)) then some (.val (.int (i * 2 ^ j.toNat))) else none
  | .shr, .int i, .int j => if 0 ≤ j then some (.val (.int (i / 2 ^ j.toNat))) else none
  | _, _, _ => none
def eqD (x y : D) : Option Bool := match x.py, y.py with
  | some a, some b => if SeqAt.shaped a && SeqAt.shaped b then some (PyData.eqv a b) else none
  | _, _ => none
/-- the flat ones among the values -/
def vD : D → Option V
  | .non => some .non
  | .bl b => some (.bl b)
  | .int i => some (.int i)
  | .str x => some (.str x)
  | _ => none
def vDs : List D → Option (List V)
  | [] => some []
  | d :: r => (vD d).bind fun v => (vDs r).map fun l => v :: l
def inD (st : Sto) (x y : D) : Option Bool := match y with
  | .str b => (match x with
    | .str a => some (!(Builtin.Str.occurrences b a 0 b.length 1).isEmpty)
    | _ => none)
  | .tup ys => (vD x).bind fun v => (vDs ys).map fun vs => inV v vs
  | _ => (items st y).bind fun ys => x.py.bind fun d => (D.pys ys).bind fun ds => if SeqAt.shaped d && SeqAt.shaped (.list ds) then some (ds.any fun z => PyData.eqv z d) else none
def copR (st : Sto) (o : Cop) (x y : D) : Option Bool := match o, x, y with
  | .eq, _, _ => eqD x y
  | .ne, _, _ => (eqD x y).map not
  | .lt, .int i, .int j => some (decide (i < j))
  | .le, .int i, .int j => some (decide (i ≤ j))
  | .gt, .int i, .int j => some (decide (j < i))
  | .ge, .int i, .int j => some (decide (j ≤ i))
  | .isN, _, .non => some (decide (x = .non))
  | .notN, _, .non => some (!decide (x = .non))
  | .inn, _, _ => inD st x y
  | .nin, _, _ => (inD st x y).map not
  | _, _, _ => none
def ixR (st : Sto) (x i : D) : Option D := match i with
  | .int k => match x with
    | .str z => if z.length ≤ 16777216 then (atI z.cps.toList k).map fun c => .str ⟨#[c]⟩ else none
    | _ => (items st x).bind fun xs => atI xs k
  | _ => none
/-- a slice's items -/
def cutD (xs : List D) (lo hi : Option Int) : List D := (xs.drop (HT.sIx xs.length 0 lo)).take (HT.sIx xs.length xs.length hi - HT.sIx xs.length 0 lo)
def slR (st : Sto) (x : D) (lo hi : Option Int) : Option Rv := match x with
  | .tup xs => some (.val (.tup (cutD xs lo hi)))
  | .str _ => none
  | _ => (items st x).map fun xs => .lst (cutD xs lo hi)
/-- the data that a sort compares: all alike, of one kind -/
def D.pyD (d : D) : PyData := d.py.getD .none
def alikeB (ds : List PyData) : Bool := ds.all fun d => ds.all fun e => PySem.W.alike d e
def tupB : PyData → Bool
  | .tuple (_ :: _) => true
  | _ => false
def othB : PyData → Bool
  | .none => false
  | .tuple _ => false
  | _ => true
def sortD (xs : List D) : Option (List D) := (D.pys xs).bind fun ds =>
  if decide (xs.length ≤ 1000000) && (alikeB ds && ((ds.all tupB || ds.all othB) && ds.all fun d => decide (d.depth ≤ 64))) then some (xs.mergeSort (PySem.W.dataLe false D.pyD)) else none
/-- str of a value -/
def strD : D → Option D
  | .str x => some (.str x)
  | .int i => if i.natAbs.log2 < 1920 then some (.str (toString i)) else none
  | .tup xs => (D.pys xs).bind fun ds => if (PyData.tuple ds).showable && (!(PyData.tuple ds).hasDict && (decide ((PyData.tuple ds).depth ≤ 64) && decide ((PyData.tuple ds).shown.length ≤ 16777216))) then some (.str (PyData.tuple ds).shown) else none
  | _ => none
def notTup : D → Bool
  | .tup _ => false
  | _ => true
def bltR (st : Sto) (b : Blt) (xs : List D) : Option Rv := match b, xs with
  | .len, [.str x] => if x.length ≤ 16777216 then some (.val (.int x.length)) else none
  | .len, [d] => (items st d).map fun xs => .val (.int xs.length)
  | .int, [.bl b] => some (.val (.int (if b then 1 else 0)))
  | .int, [.int i] => some (.val (.int i))
  | .list, [d] => (items st d).map fun xs => .lst xs
  | .tuple, [d] => (items st d).map fun xs => .val (.tup xs)
  | .sorted, [d] => if notTup d then (items st d).bind fun xs => (sortD xs).map fun ys => .lst ys else none
  | .str, [d] => (strD d).map .val
  | _, _ => none
def mthR (st : Sto) (m : Mth) (o : D) (xs : List D) : Option (Rv × Sto) := none

/-- what a loop walks, and what must stand as it is meanwhile -/
inductive Src where
  | vals (xs : List D) | ref (n : Nat) (xs : List D)
def Src.xs : Src → List D
  | .vals xs => xs
  | .ref _ xs => xs
def Src.ok (s : Src) (st : Sto) : Bool := match s with
  | .vals _ => true
  | .ref n xs => match st[n]? with
    | some (.lst ys) => decide (ys = xs)
    | _ => false
def srcOf (st : Sto) : D → Option Src
  | .lst xs => if xs.length ≤ 1000000 then some (.vals xs) else none
  | .scr xs => if xs.length ≤ 1000000 then some (.vals xs) else none
  | .tup xs => if xs.length ≤ 1000000 then some (.vals xs) else none
  | .ref n => match st[n]? with
    | some (.lst xs) => if xs.length ≤ 1000000 then some (.ref n xs) else none
    | _ => none
  | _ => none
def wipeE (env : Env) : List Nat → Env
  | [] => env
  | v :: vs => (wipeE env vs).set v none
def rngD (lo hi : Int) : Option (List D) :=
  if decide (-1000000000 ≤ lo) && (decide (lo ≤ 1000000000) && (decide (-1000000000 ≤ hi) && (decide (hi ≤ 1000000000) && decide ((hi - lo).toNat ≤ 1000000)))) then some ((List.range (hi - lo).toNat).map fun i => .int (lo + (i : Nat))) else none
/-- a comprehension's turns -/
def lcGo (f : D → Sto → Option (Option D × Sto)) (g : Sto → Bool) : List D → Sto → Option (List D × Sto)
  | [], st => if g st then some ([], st) else none
  | x :: r, st => if g st then (f x st).bind fun p => (lcGo f g r p.2).map fun q => (p.1.toList ++ q.1, q.2) else none
inductive Fl where
  | nx | rt (r : Rv) | bk | ct
def forGo (f : D → Env → Sto → Option (Fl × Env × Sto)) (g : Sto → Bool) : List D → Env → Sto → Option (Fl × Env × Sto)
  | [], env, st => if g st then some (.nx, env, st) else none
  | x :: r, env, st => if g st then (f x env st).bind fun p => match p.1 with
    | .nx => forGo f g r p.2.1 p.2.2
    | .ct => forGo f g r p.2.1 p.2.2
    | .bk => some (.nx, p.2.1, p.2.2)
    | .rt v => some (.rt v, p.2.1, p.2.2) else none
def whlGo (c : Env → Sto → Option (Bool × Sto)) (f : Env → Sto → Option (Fl × Env × Sto)) : Nat → Env → Sto → Option (Fl × Env × Sto)
  | 0, _, _ => none
  | n + 1, env, st => (c env st).bind fun p => if p.1 then (f env p.2).bind fun q => match q.1 with
    | .nx => whlGo c f n q.2.1 q.2.2
    | .ct => whlGo c f n q.2.1 q.2.2
    | .bk => some (.nx, q.2.1, q.2.2)
    | .rt v => some (.rt v, q.2.1, q.2.2) else some (.nx, env, p.2)
/-- o[k] = v on an object of the store -/
def setO (st : Sto) (o k v : D) : Option Sto := match o, k with
  | .ref n, .int i => match st[n]? with
    | some (.lst xs) => (ixN xs.length i).map fun j => st.set n (.lst (xs.set j v))
    | _ => none
  | _, _ => none
/-- x[k] = v where x holds its own list -/
def setV (r : Rv) (k v : D) : Option Rv := match r, k with
  | .lst xs, .int i => (ixN xs.length i).map fun j => .lst (xs.set j v)
  | _, _ => none

section
variable (C : Calls)
mutual
def evE : E → Env → Sto → Option (Rv × Sto)
  | .var i, env, st => match env[i]? with
    | some (some (.val d)) => some (.val d, st)
    | _ => none
  | .con d, _, st => some (.val d, st)
  | .glo _ d, _, st => some (.val d, st)
  | .tup es, env, st => (evEs es env st).bind fun p => if p.1.length ≤ 1000 then some (.val (.tup p.1), p.2) else none
  | .lst es, env, st => (evEs es env st).bind fun p => if p.1.length ≤ 1000 then some (.lst p.1, p.2) else none
  | .dic t, _, st => some (.dct t [], st)
  | .pro e, env, st => (evE e env st).bind fun p => match p.1 with
    | .lst xs => some (.val (.ref p.2.length), p.2 ++ [.lst xs])
    | .dct t kvs => some (.val (.ref p.2.length), p.2 ++ [.dct t kvs])
    | .val _ => none
  | .bop o a b, env, st => (pk a env st (evE a env st)).bind fun p => (pk b env p.2 (evE b env p.2)).bind fun q => (bopR o p.1 q.1).map fun r => (r, q.2)
  | .neg a, env, st => (evE a env st).bind fun p => match p.1 with
    | .val (.int i) => some (.val (.int (-i)), p.2)
    | _ => none
  | .nt a, env, st => (pk a env st (evE a env st)).bind fun p => (tru p.2 p.1).map fun b => (.val (.bl (!b)), p.2)
  | .cmp o a b, env, st => (pk a env st (evE a env st)).bind fun p => (pk b env p.2 (evE b env p.2)).bind fun q => (copR q.2 o p.1 q.1).map fun r => (.val (.bl r), q.2)
  | .chain o o' a b c, env, st => (pk a env st (evE a env st)).bind fun p => (pk b env p.2 (evE b env p.2)).bind fun q => (copR q.2 o p.1 q.1).bind fun k =>
      if k then (pk c env q.2 (evE c env q.2)).bind fun r => (copR r.2 o' q.1 r.1).map fun z => (.val (.bl z), r.2) else some (.val (.bl false), q.2)
  | .and a b, env, st => (evE a env st).bind fun p => (tru p.2 p.1.d).bind fun k => if k then evE b env p.2 else some p
  | .or a b, env, st => (evE a env st).bind fun p => (tru p.2 p.1.d).bind fun k => if k then some p else evE b env p.2
  | .ix a i, env, st => (pk a env st (evE a env st)).bind fun p => (pk i env p.2 (evE i env p.2)).bind fun q => (ixR q.2 p.1 q.1).map fun d => (.val d, q.2)
  | .sl a lo hi, env, st => (pk a env st (evE a env st)).bind fun p => (evEo lo env p.2).bind fun q => (evEo hi env q.2).bind fun r => (slR r.2 p.1 q.1 r.1).map fun z => (z, r.2)
  | .call f es, env, st => (evEs es env st).bind fun p => C.call f p.1 p.2
  | .blt b es, env, st => (evPs es env st).bind fun p => (bltR p.2 b p.1).map fun r => (r, p.2)
  | .mth m o es, env, st => (evE o env st).bind fun p => (evEs es env p.2).bind fun q => mthR q.2 m p.1.d q.1
  | .att o f, env, st => (evE o env st).bind fun p => match p.1 with
    | .val (.ref n) => match p.2[n]? with
      | some (.ins _ fs) => (fs.lookup f).map fun d => (.val d, p.2)
      | _ => none
    | _ => none
  | .met o c m es, env, st => (evE o env st).bind fun p => match p.1 with
    | .val (.ref n) => match p.2[n]? with
      | some (.ins c' fs) => if c' = c ∧ fs.lookup m = none then (evEs es env p.2).bind fun q => C.meth c m (.ref n :: q.1) q.2 else none
      | _ => none
    | _ => none
  | .new c es, env, st => (evEs es env st).bind fun p => C.make c p.1 p.2
  | .lc vs t it c e, env, st => (evIt it env st true).bind fun p =>
      (lcGo (fun x st => (bind t x (wipeE env vs) st).bind fun q => (evEt c q.1 q.2).bind fun (k : Bool × Sto) =>
        if k.1 then (evE e q.1 k.2).map fun (z : Rv × Sto) => (some z.1.d, z.2) else some (none, k.2)) p.1.ok p.1.xs p.2).map fun z => (.lst z.1, z.2)
def evEs : Es → Env → Sto → Option (List D × Sto)
  | .nil, _, st => some ([], st)
  | .cons e es, env, st => (evE e env st).bind fun p => (evEs es env p.2).map fun q => (p.1.d :: q.1, q.2)
/-- arguments that are read alone -/
def evPs : Es → Env → Sto → Option (List D × Sto)
  | .nil, _, st => some ([], st)
  | .cons e es, env, st => (pk e env st (evE e env st)).bind fun p => (evPs es env p.2).map fun q => (p.1 :: q.1, q.2)
/-- a comprehension's test, if any -/
def evEt : Eo → Env → Sto → Option (Bool × Sto)
  | .non, _, st => some (true, st)
  | .som c, env, st => (pk c env st (evE c env st)).bind fun r => (tru r.2 r.1).map fun b => (b, r.2)
def evEo : Eo → Env → Sto → Option (Option Int × Sto)
  | .non, _, st => some (none, st)
  | .som e, env, st => (evE e env st).bind fun p => match p.1 with
    | .val (.int i) => some (some i, p.2)
    | _ => none
/-- a value comes to a target -/
def bind : T → D → Env → Sto → Option (Env × Sto)
  | .nm i, d, env, st => if i < env.length then some (env.set i (some (.val d)), st) else none
  | .ix (.var s) k, d, env, st => (match env[s]? with
    | some (some (.val o)) => (evE k env st).bind fun p => (setO p.2 o p.1.d d).map fun st => (env, st)
    | some (some r) => (evE k env st).bind fun p => (setV r p.1.d d).map fun r => (env.set s (some r), p.2)
    | _ => none)
  | .ix o k, d, env, st => (evE o env st).bind fun p => (evE k env p.2).bind fun q => (setO q.2 p.1.d q.1.d d).map fun st => (env, st)
  | .tup ts, d, env, st => match d with
    | .tup xs => binds ts xs env st
    | _ => none
def binds : Ts → List D → Env → Sto → Option (Env × Sto)
  | .nil, [], env, st => some (env, st)
  | .cons t ts, x :: xs, env, st => (bind t x env st).bind fun p => binds ts xs p.1 p.2
  | _, _, _, _ => none
def evIt : It → Env → Sto → Bool → Option (Src × Sto)
  | .seq e, env, st, k => (cond k (pk e env st (evE e env st)) ((evE e env st).map fun p => (p.1.d, p.2))).bind fun p => (srcOf p.2 p.1).map fun s => (s, p.2)
  | .rng1 a, env, st, _ => (evE a env st).bind fun p => match p.1 with
    | .val (.int n) => (rngD 0 n).map fun xs => (.vals xs, p.2)
    | _ => none
  | .rng2 a b, env, st, _ => (evE a env st).bind fun p => (evE b env p.2).bind fun q => match p.1, q.1 with
    | .val (.int i), .val (.int j) => (rngD i j).map fun xs => (.vals xs, q.2)
    | _, _ => none
end
/-- a test -/
def evT (e : E) (env : Env) (st : Sto) : Option (Bool × Sto) := (pk e env st (evE C e env st)).bind fun p => (tru p.2 p.1).map fun b => (b, p.2)
variable (wf : Nat)
mutual
def exS : S → Env → Sto → Option (Fl × Env × Sto)
  | .asg i e, env, st => (evE C e env st).bind fun p => if i < env.length then some (.nx, env.set i (some (.val p.1.d)), p.2) else none
  | .asgO i e, env, st => (evE C e env st).bind fun p => if i < env.length then some (.nx, env.set i (some p.1), p.2) else none
  | .tgt t e, env, st => (evE C e env st).bind fun p => (bind C t p.1.d env p.2).map fun q => (.nx, q.1, q.2)
  | .par i j a b, env, st => (evE C a env st).bind fun p => (evE C b env p.2).bind fun q =>
      if i < env.length ∧ j < env.length then some (.nx, (env.set i (some (.val p.1.d))).set j (some (.val q.1.d)), q.2) else none
  | .satt o f v, env, st => (evE C v env st).bind fun p => (evE C o env p.2).bind fun q => match q.1 with
    | .val (.ref n) => (match q.2[n]? with
      | some (.ins c fs) => if fs.length < 100 then some (.nx, env, q.2.set n (.ins c (fs.filter (fun (z : Str × D) => decide (z.1 ≠ f)) ++ [(f, p.1.d)]))) else none
      | _ => none)
    | _ => none
  | .ifs c a b, env, st => (evT C c env st).bind fun p => if p.1 then exSs a env p.2 else exSs b env p.2
  | .whl c b, env, st => whlGo (evT C c) (exSs b) wf env st
  | .for_ t it b, env, st => (evIt C it env st false).bind fun p => forGo (fun x env st => (bind C t x env st).bind fun q => exSs b q.1 q.2) p.1.ok p.1.xs env p.2
  | .ret e, env, st => (evE C e env st).map fun p => (.rt p.1, env, p.2)
  | .retV i, env, st => (match env[i]? with
    | some (some r) => some (.rt r, env, st)
    | _ => none)
  | .retN, env, st => some (.rt (.val .non), env, st)
  | .ex e, env, st => (evE C e env st).map fun p => (.nx, env, p.2)
  | .app (.var i) v, env, st => (match env[i]? with
    | some (some (.lst xs)) => (evE C v env st).bind fun p => if xs.length < 1000000 then some (.nx, env.set i (some (.lst (xs ++ [p.1.d]))), p.2) else none
    | some (some (.val (.ref n))) => (match st[n]? with
      | some (.lst _) => (evE C v env st).bind fun p => (match p.2[n]? with
        | some (.lst xs) => if xs.length < 1000000 then some (.nx, env, p.2.set n (.lst (xs ++ [p.1.d]))) else none
        | _ => none)
      | _ => none)
    | _ => none)
  | .app _ _, _, _ => none
  | .clr _, _, _ => none
  | .share i, env, st => (match env[i]? with
    | some (some r) => some (.nx, env.set i (some (.val r.d)), st)
    | _ => none)
  | .pass, env, st => some (.nx, env, st)
  | .brk, env, st => some (.bk, env, st)
  | .cnt, env, st => some (.ct, env, st)
def exSs : Ss → Env → Sto → Option (Fl × Env × Sto)
  | .nil, env, st => some (.nx, env, st)
  | .cons s r, env, st => (exS s env st).bind fun p => match p.1 with
    | .nx => exSs r p.2.1 p.2.2
    | _ => some p
end
end

/-! ### the text's defs -/
structure Fn where
  /-- where it stands: a global's name; a class and its method -/
  at_ : Str × Option Str
  qual : Str
  N : List Str
  np : Nat
  body : Ss
structure Cl where
  name : Str
  init : Nat
  meths : List (Str × Nat)
structure Tab where
  fns : List Fn
  cls : List Cl
def Fn.run (f : Fn) (C : Calls) (wf : Nat) (args : List D) (st : Sto) : Option (Rv × Sto) :=
  if args.length = f.np then (exSs C wf f.body (args.map (fun d => some (.val d)) ++ List.replicate (f.N.length - f.np) none) st).bind fun p => match p.1 with
    | .rt r => some (r, p.2.2)
    | .nx => some (.val .non, p.2.2)
    | _ => none
  else none
variable (Tb : Tab) (wf : Nat)
mutual
/-- the calls that may go n deep -/
def calls : Nat → Calls
  | 0 => ⟨fun _ _ _ => none, fun _ _ _ => none, fun _ _ _ _ => none⟩
  | n + 1 => ⟨fun f args st => (match Tb.fns[f]? with
      | some fn => fn.run (calls n) wf args st
      | none => none),
    fun c args st => (match Tb.cls[c]? with
      | some cl => (match Tb.fns[cl.init]? with
        | some fn => (fn.run (calls n) wf (.ref st.length :: args) (st ++ [.ins c []])).bind fun p => if p.1.d = .non then some (.val (.ref st.length), p.2) else none
        | none => none)
      | none => none),
    fun c m args st => (match Tb.cls[c]? with
      | some cl => (match cl.meths.lookup m with
        | some f => (match Tb.fns[f]? with
          | some fn => fn.run (calls n) wf args st
          | none => none)
        | none => none)
      | none => none)⟩
end
end Iv

set_option Elab.async false
set_option linter.all false
set_option maxRecDepth 100000
/-! Iv, part B1: how values, objects and names of the small language stand in the abstract heap. -/
namespace Iv
open PySem L2

/-- objects that change -/
def mutO : HO → Bool
  | .lst _ => true
  | .dK _ => true
  | .dT _ => true
  | .ins _ _ _ => true
  | _ => false

section
variable (K : PySem.W.Frag) (φ : List Addr) (F : Addr → Prop) (H : Hp)
mutual
/-- v stands for d: φ says where the store's objects are, F which lists and dicts nobody changes -/
def Rep : D → V → Prop
  | .non, v => v = .non
  | .bl b, v => v = .bl b
  | .int i, v => v = .int i
  | .str x, v => v = .str x
  | .tup ds, v => ∃ a vs, v = .ref a ∧ SqT K H a vs ∧ Reps ds vs
  | .lst ds, v => ∃ a vs, v = .ref a ∧ H a = some (.lst vs) ∧ F a ∧ Reps ds vs
  | .scr ds, v => ∃ a vs, v = .ref a ∧ (∀ H' : Hp, (∀ o u, H a = some (.frz o u) → H' a = some (.frz o u)) → SqL K H' a vs) ∧ Reps ds vs
  | .dct false ds, v => ∃ a vs, v = .ref a ∧ Rd H a (.dK vs) ∧ F a ∧ RepK ds vs
  | .dct true ds, v => ∃ a vs, v = .ref a ∧ Rd H a (.dT vs) ∧ F a ∧ RepT ds vs
  | .ref n, v => ∃ a, v = .ref a ∧ φ[n]? = some a
def Reps : List D → List V → Prop
  | [], vs => vs = []
  | d :: ds, vs => ∃ v r, vs = v :: r ∧ Rep d v ∧ Reps ds r
def RepK : List (D × D) → List (Key × V) → Prop
  | [], vs => vs = []
  | (k, d) :: ds, vs => ∃ c v r, vs = (c, v) :: r ∧ keyK k = some c ∧ Rep d v ∧ RepK ds r
def RepT : List (D × D) → List (List Key × V) → Prop
  | [], vs => vs = []
  | (k, d) :: ds, vs => ∃ c v r, vs = (c, v) :: r ∧ keyT k = some c ∧ Rep d v ∧ RepT ds r
end
end
/-- fields by name -/
def RepF (K : PySem.W.Frag) (φ : List Addr) (F : Addr → Prop) (H : Hp) : List (Str × D) → List (Str × V) → Prop
  | [], vs => vs = []
  | (x, d) :: ds, vs => ∃ v r, vs = (x, v) :: r ∧ Rep K φ F H d v ∧ RepF K φ F H ds r

structure Base (φ : List Addr) (F : Addr → Prop) (H : Hp) : Prop where
  muo : ∀ a ∈ φ, ∃ o, H a = some o ∧ mutO o = true
  sep : ∀ a, F a → a ∉ φ
  trk : ∀ a, F a → ∃ o, H a = some o
/-- from one moment to a later one -/
structure Step (φ : List Addr) (F : Addr → Prop) (H : Hp) (φ' : List Addr) (F' : Addr → Prop) (H' : Hp) : Prop where
  pre : ∀ (n : Nat) (a : Addr), φ[n]? = some a → φ'[n]? = some a
  fr : ∀ a, F a → F' a
  keep : ∀ a o, H a = some o → a ∉ φ → H' a = some o
  there : ∀ a o, H a = some o → ∃ o', H' a = some o'
  fresh : ∀ a, a ∈ φ' → a ∈ φ ∨ H a = none
  freshF : ∀ a, F' a → F a ∨ H a = none
section
variable {K : PySem.W.Frag} {φ φ' φ'' : List Addr} {F F' F'' : Addr → Prop} {H H' H'' : Hp}
theorem Step.refl : Step φ F H φ F H := ⟨fun _ _ h => h, fun _ h => h, fun _ _ h _ => h, fun _ o h => ⟨o, h⟩, fun _ h => .inl h, fun _ h => .inl h⟩
theorem Step.sub (s : Step φ F H φ' F' H') {a : Addr} (h : a ∈ φ) : a ∈ φ' := by
  obtain ⟨n, hn⟩ := List.getElem?_of_mem h
  exact List.mem_of_getElem? (s.pre n a hn)
theorem Step.none (s : Step φ F H φ' F' H') {a : Addr} (h : H' a = none) : H a = none := by
  cases e : H a with
  | none => rfl
  | some o =>
    obtain ⟨o', h'⟩ := s.there a o e
    rw [h] at h'
    cases h'
theorem Step.trans (s : Step φ F H φ' F' H') (t : Step φ' F' H' φ'' F'' H'') : Step φ F H φ'' F'' H'' := by
  refine ⟨fun n a h => t.pre n a (s.pre n a h), fun a h => t.fr a (s.fr a h), fun a o h na => t.keep a o (s.keep a o h na) fun h' => ?_, fun a o h => ?_, fun a h => ?_, fun a h => ?_⟩
  · rcases s.fresh a h' with z | z
    · exact na z
    · rw [h] at z
      cases z
  · obtain ⟨o', h'⟩ := s.there a o h
    exact t.there a o' h'
  · rcases t.fresh a h with z | z
    · exact s.fresh a z
    · exact .inr (s.none z)
  · rcases t.freshF a h with z | z
    · exact s.freshF a z
    · exact .inr (s.none z)
/-- tuples and frozen things stay -/
theorem Step.tup (b : Base φ F H) (s : Step φ F H φ' F' H') {a : Addr} {vs : List V} (h : H a = some (.tup vs)) : H' a = some (.tup vs) :=
  s.keep a _ h fun m => by
    obtain ⟨o, e, q⟩ := b.muo a m
    rw [h] at e
    cases e
    cases q
theorem Step.frz (b : Base φ F H) (s : Step φ F H φ' F' H') {a : Addr} {o : Obj} {u : HO} (h : H a = some (.frz o u)) : H' a = some (.frz o u) :=
  s.keep a _ h fun m => by
    obtain ⟨o, e, q⟩ := b.muo a m
    rw [h] at e
    cases e
    cases q
theorem Step.sqT (b : Base φ F H) (s : Step φ F H φ' F' H') {a : Addr} {vs : List V} (h : SqT K H a vs) : SqT K H' a vs := by
  rcases h with (h | ⟨o, h⟩) | h
  · exact .inl (.inl (s.tup b h))
  · exact .inl (.inr ⟨o, s.frz b h⟩)
  · exact .inr h
theorem Step.rd (b : Base φ F H) (s : Step φ F H φ' F' H') {a : Addr} {u : HO} (hf : F a) (h : Rd H a u) : Rd H' a u := by
  rcases h with h | ⟨o, h⟩
  · exact .inl (s.keep a _ h (b.sep a hf))
  · exact .inr ⟨o, s.frz b h⟩
mutual
theorem Rep.step (b : Base φ F H) (s : Step φ F H φ' F' H') : ∀ (d : D) (v : V), Rep K φ F H d v → Rep K φ' F' H' d v
  | .non, _, h => h
  | .bl _, _, h => h
  | .int _, _, h => h
  | .str _, _, h => h
  | .tup ds, _, h => by
    obtain ⟨a, vs, e, q, r⟩ := h
    exact ⟨a, vs, e, s.sqT b q, Reps.step b s ds vs r⟩
  | .lst ds, _, h => by
    obtain ⟨a, vs, e, q, f, r⟩ := h
    exact ⟨a, vs, e, s.keep a _ q (b.sep a f), s.fr a f, Reps.step b s ds vs r⟩
  | .scr ds, _, h => by
    obtain ⟨a, vs, e, q, r⟩ := h
    exact ⟨a, vs, e, fun H2 h2 => q H2 fun o u z => h2 o u (s.frz b z), Reps.step b s ds vs r⟩
  | .dct false ds, _, h => by
    obtain ⟨a, vs, e, q, f, r⟩ := h
    exact ⟨a, vs, e, s.rd b f q, s.fr a f, RepK.step b s ds vs r⟩
  | .dct true ds, _, h => by
    obtain ⟨a, vs, e, q, f, r⟩ := h
    exact ⟨a, vs, e, s.rd b f q, s.fr a f, RepT.step b s ds vs r⟩
  | .ref n, _, h => by
    obtain ⟨a, e, q⟩ := h
    exact ⟨a, e, s.pre n a q⟩
theorem Reps.step (b : Base φ F H) (s : Step φ F H φ' F' H') : ∀ (ds : List D) (vs : List V), Reps K φ F H ds vs → Reps K φ' F' H' ds vs
  | [], _, h => h
  | d :: ds, _, h => by
    obtain ⟨v, r, e, q, t⟩ := h
    exact ⟨v, r, e, Rep.step b s d v q, Reps.step b s ds r t⟩
theorem RepK.step (b : Base φ F H) (s : Step φ F H φ' F' H') : ∀ (ds : List (D × D)) (vs : List (Key × V)), RepK K φ F H ds vs → RepK K φ' F' H' ds vs
  | [], _, h => h
  | (_, d) :: ds, _, h => by
    obtain ⟨c, v, r, e, k, q, t⟩ := h
    exact ⟨c, v, r, e, k, Rep.step b s d v q, RepK.step b s ds r t⟩
theorem RepT.step (b : Base φ F H) (s : Step φ F H φ' F' H') : ∀ (ds : List (D × D)) (vs : List (List Key × V)), RepT K φ F H ds vs → RepT K φ' F' H' ds vs
  | [], _, h => h
  | (_, d) :: ds, _, h => by
    obtain ⟨c, v, r, e, k, q, t⟩ := h
    exact ⟨c, v, r, e, k, Rep.step b s d v q, RepT.step b s ds r t⟩
end
theorem RepF.step (b : Base φ F H) (s : Step φ F H φ' F' H') : ∀ (ds : List (Str × D)) (vs : List (Str × V)), RepF K φ F H ds vs → RepF K φ' F' H' ds vs
  | [], _, h => h
  | (_, d) :: ds, _, h => by
    obtain ⟨v, r, e, q, t⟩ := h
    exact ⟨v, r, e, Rep.step b s d v q, RepF.step b s ds r t⟩
theorem Reps.length : ∀ {ds : List D} {vs : List V}, Reps K φ F H ds vs → vs.length = ds.length
  | [], _, h => by cases (show _ = [] from h); rfl
  | d :: ds, _, h => by
    obtain ⟨v, r, e, _, t⟩ := h
    subst e
    simp [Reps.length t]
theorem Reps.get : ∀ {ds : List D} {vs : List V} {i : Nat} {d : D}, Reps K φ F H ds vs → ds[i]? = some d → ∃ v, vs[i]? = some v ∧ Rep K φ F H d v
  | [], _, i, d, _, e => by simp at e
  | x :: ds, _, 0, d, h, e => by
    obtain ⟨v, r, rfl, q, t⟩ := h
    simp only [List.getElem?_cons_zero, Option.some.injEq] at e
    subst e
    exact ⟨v, rfl, q⟩
  | x :: ds, _, i + 1, d, h, e => by
    obtain ⟨v, r, rfl, q, t⟩ := h
    obtain ⟨u, h1, h2⟩ := Reps.get (i := i) t (by simpa using e)
    exact ⟨u, by simpa using h1, h2⟩
theorem Reps.append : ∀ {ds es : List D} {vs us : List V}, Reps K φ F H ds vs → Reps K φ F H es us → Reps K φ F H (ds ++ es) (vs ++ us)
  | [], _, _, _, h, k => by cases (show _ = [] from h); exact k
  | d :: ds, _, _, _, h, k => by
    obtain ⟨v, r, rfl, q, t⟩ := h
    exact ⟨v, _, rfl, q, Reps.append t k⟩
theorem Reps.drop : ∀ {ds : List D} {vs : List V} (n : Nat), Reps K φ F H ds vs → Reps K φ F H (ds.drop n) (vs.drop n)
  | _, _, 0, h => by simpa using h
  | [], _, _ + 1, h => by cases (show _ = [] from h); simpa [Reps]
  | d :: ds, _, n + 1, h => by
    obtain ⟨v, r, rfl, q, t⟩ := h
    simpa using Reps.drop n t
theorem Reps.take : ∀ {ds : List D} {vs : List V} (n : Nat), Reps K φ F H ds vs → Reps K φ F H (ds.take n) (vs.take n)
  | _, _, 0, h => by simp [Reps]
  | [], _, _ + 1, h => by cases (show _ = [] from h); simp [Reps]
  | d :: ds, _, n + 1, h => by
    obtain ⟨v, r, rfl, q, t⟩ := h
    exact ⟨v, _, rfl, q, Reps.take n t⟩
theorem Reps.set : ∀ {ds : List D} {vs : List V} {d : D} {v : V} (n : Nat), Reps K φ F H ds vs → Rep K φ F H d v → Reps K φ F H (ds.set n d) (vs.set n v)
  | [], _, _, _, _, h, _ => by cases (show _ = [] from h); simp [Reps]
  | x :: ds, _, d, v, 0, h, k => by
    obtain ⟨u, r, rfl, q, t⟩ := h
    exact ⟨v, r, rfl, k, t⟩
  | x :: ds, _, d, v, n + 1, h, k => by
    obtain ⟨u, r, rfl, q, t⟩ := h
    exact ⟨u, _, rfl, q, Reps.set n t k⟩
theorem Reps.snoc {ds : List D} {vs : List V} {d : D} {v : V} (h : Reps K φ F H ds vs) (k : Rep K φ F H d v) : Reps K φ F H (ds ++ [d]) (vs ++ [v]) := Reps.append h ⟨v, [], rfl, k, rfl⟩
theorem Reps.empty {ds : List D} {vs : List V} (h : Reps K φ F H ds vs) : vs.isEmpty = ds.isEmpty := by
  cases ds with
  | nil => cases (show _ = [] from h); rfl
  | cons d ds => obtain ⟨v, r, rfl, q, t⟩ := h; rfl
theorem Reps.ints : ∀ {ns : List Int}, Reps K φ F H (ns.map D.int) (ns.map V.int)
  | [] => rfl
  | n :: ns => ⟨_, _, rfl, rfl, Reps.ints⟩
end

/-- an object of the store; ca: where the classes are -/
def ObRep (K : PySem.W.Frag) (ca : Nat → Addr) (φ : List Addr) (F : Addr → Prop) (H : Hp) (a : Addr) : Ob → Prop
  | .lst xs => ∃ vs, H a = some (.lst vs) ∧ Reps K φ F H xs vs
  | .dct false kvs => ∃ vs, H a = some (.dK vs) ∧ RepK K φ F H kvs vs
  | .dct true kvs => ∃ vs, H a = some (.dT vs) ∧ RepT K φ F H kvs vs
  | .ins c fs => ∃ dx vs, H a = some (.ins (ca c) dx vs) ∧ RepF K φ F H fs vs
structure StOk (K : PySem.W.Frag) (ca : Nat → Addr) (φ : List Addr) (F : Addr → Prop) (H : Hp) (st : Sto) : Prop where
  base : Base φ F H
  nd : φ.Nodup
  len : φ.length = st.length
  obs : ∀ (n : Nat) (ob : Ob) (a : Addr), st[n]? = some ob → φ[n]? = some a → ObRep K ca φ F H a ob
/-- what an expression yields, what a name holds -/
def RvRep (K : PySem.W.Frag) (φ : List Addr) (F : Addr → Prop) (H : Hp) : Rv → V → Prop
  | .val d, v => Rep K φ F H d v
  | .lst xs, v => ∃ a vs, v = .ref a ∧ H a = some (.lst vs) ∧ Reps K φ F H xs vs ∧ ¬ F a ∧ a ∉ φ
  | .dct false ks, v => ∃ a vs, v = .ref a ∧ H a = some (.dK vs) ∧ RepK K φ F H ks vs ∧ ¬ F a ∧ a ∉ φ
  | .dct true ks, v => ∃ a vs, v = .ref a ∧ H a = some (.dT vs) ∧ RepT K φ F H ks vs ∧ ¬ F a ∧ a ∉ φ
def Rv.own : Rv → Bool
  | .val _ => false
  | _ => true
/-- what nobody else has was not there before -/
def Frs (H : Hp) (r : Rv) (v : V) : Prop := r.own = true → ∀ a, v = .ref a → H a = none
structure EnvOk (K : PySem.W.Frag) (φ : List Addr) (F : Addr → Prop) (H : Hp) (σ : St) (env : Env) : Prop where
  len : env.length = σ.length
  at_ : ∀ (i : Nat) (r : Rv), env[i]? = some (some r) → ∃ v, σ[i]? = some (some v) ∧ RvRep K φ F H r v
  apart : ∀ (i j : Nat) (ri rj : Rv) (a : Addr), env[i]? = some (some ri) → env[j]? = some (some rj) → ri.own = true → rj.own = true → σ[i]? = some (some (.ref a)) → σ[j]? = some (some (.ref a)) → i = j
/-- an operand that is read for the moment: a value, or a name's own list or dict -/
def PRep (K : PySem.W.Frag) (φ : List Addr) (F : Addr → Prop) (H : Hp) (d : D) (v : V) : Prop := Rep K φ F H d v ∨ ∃ r : Rv, r.d = d ∧ r.own = true ∧ RvRep K φ F H r v
section
variable {K : PySem.W.Frag} {ca : Nat → Addr} {φ φ' φ'' : List Addr} {F F' F'' : Addr → Prop} {H H' H'' : Hp} {st st' : Sto} {σ : St} {env : Env}
theorem RvRep.step (b : Base φ F H) (s : Step φ F H φ' F' H') : ∀ (r : Rv) (v : V), RvRep K φ F H r v → RvRep K φ' F' H' r v
  | .val d, v, h => Rep.step b s d v h
  | .lst xs, v, h => by
    obtain ⟨a, vs, e, q, r, nf, np⟩ := h
    refine ⟨a, vs, e, s.keep a _ q np, Reps.step b s xs vs r, fun z => ?_, fun z => ?_⟩
    · rcases s.freshF a z with y | y
      · exact nf y
      · rw [q] at y; cases y
    · rcases s.fresh a z with y | y
      · exact np y
      · rw [q] at y; cases y
  | .dct false xs, v, h => by
    obtain ⟨a, vs, e, q, r, nf, np⟩ := h
    refine ⟨a, vs, e, s.keep a _ q np, RepK.step b s xs vs r, fun z => ?_, fun z => ?_⟩
    · rcases s.freshF a z with y | y
      · exact nf y
      · rw [q] at y; cases y
    · rcases s.fresh a z with y | y
      · exact np y
      · rw [q] at y; cases y
  | .dct true xs, v, h => by
    obtain ⟨a, vs, e, q, r, nf, np⟩ := h
    refine ⟨a, vs, e, s.keep a _ q np, RepT.step b s xs vs r, fun z => ?_, fun z => ?_⟩
    · rcases s.freshF a z with y | y
      · exact nf y
      · rw [q] at y; cases y
    · rcases s.fresh a z with y | y
      · exact np y
      · rw [q] at y; cases y
theorem PRep.step (b : Base φ F H) (s : Step φ F H φ' F' H') {d : D} {v : V} (h : PRep K φ F H d v) : PRep K φ' F' H' d v := by
  rcases h with h | ⟨r, e, o, h⟩
  · exact .inl (Rep.step b s d v h)
  · exact .inr ⟨r, e, o, RvRep.step b s r v h⟩
theorem EnvOk.step (b : Base φ F H) (s : Step φ F H φ' F' H') (h : EnvOk K φ F H σ env) : EnvOk K φ' F' H' σ env :=
  ⟨h.len, fun i r e => let ⟨v, q, t⟩ := h.at_ i r e; ⟨v, q, RvRep.step b s r v t⟩, h.apart⟩
/-- what an own thing's address is -/
theorem RvRep.own_at {r : Rv} {v : V} (h : RvRep K φ F H r v) (o : r.own = true) : ∃ a u, v = .ref a ∧ H a = some u ∧ ¬ F a ∧ a ∉ φ := by
  match r, h with
  | .lst _, ⟨a, vs, e, q, _, nf, np⟩ => exact ⟨a, _, e, q, nf, np⟩
  | .dct false _, ⟨a, vs, e, q, _, nf, np⟩ => exact ⟨a, _, e, q, nf, np⟩
  | .dct true _, ⟨a, vs, e, q, _, nf, np⟩ => exact ⟨a, _, e, q, nf, np⟩
  | .val _, _ => cases o
/-- it is given up: from now on nobody changes it -/
def addF (F : Addr → Prop) (v : V) (r : Rv) : Addr → Prop := fun a => F a ∨ (r.own = true ∧ v = .ref a)
theorem step_addF (s : Step φ F H φ' F' H') {r : Rv} {v : V} (f : Frs H r v) : Step φ F H φ' (addF F' v r) H' :=
  ⟨s.pre, fun a h => .inl (s.fr a h), s.keep, s.there, s.fresh, fun a h => by
    rcases h with h | ⟨o, e⟩
    · exact s.freshF a h
    · exact .inr (f o a e)⟩
theorem base_addF (b : Base φ F H) {r : Rv} {v : V} (h : RvRep K φ F H r v) : Base φ (addF F v r) H :=
  ⟨b.muo, fun a z => by
    rcases z with z | ⟨o, e⟩
    · exact b.sep a z
    · obtain ⟨a', u, e', _, _, np⟩ := h.own_at o
      rw [e] at e'
      cases e'
      exact np, fun a z => by
    rcases z with z | ⟨o, e⟩
    · exact b.trk a z
    · obtain ⟨a', u, e', q, _, _⟩ := h.own_at o
      rw [e] at e'
      cases e'
      exact ⟨u, q⟩⟩
mutual
theorem Rep.more (i : ∀ a, F a → F' a) (j : ∀ (n : Nat) (a : Addr), φ[n]? = some a → φ'[n]? = some a) : ∀ (d : D) (v : V), Rep K φ F H d v → Rep K φ' F' H d v
  | .non, _, h => h
  | .bl _, _, h => h
  | .int _, _, h => h
  | .str _, _, h => h
  | .tup ds, _, h => by
    obtain ⟨a, vs, e, q, r⟩ := h
    exact ⟨a, vs, e, q, Reps.more i j ds vs r⟩
  | .lst ds, _, h => by
    obtain ⟨a, vs, e, q, f, r⟩ := h
    exact ⟨a, vs, e, q, i a f, Reps.more i j ds vs r⟩
  | .scr ds, _, h => by
    obtain ⟨a, vs, e, q, r⟩ := h
    exact ⟨a, vs, e, q, Reps.more i j ds vs r⟩
  | .dct false ds, _, h => by
    obtain ⟨a, vs, e, q, f, r⟩ := h
    exact ⟨a, vs, e, q, i a f, RepK.more i j ds vs r⟩
  | .dct true ds, _, h => by
    obtain ⟨a, vs, e, q, f, r⟩ := h
    exact ⟨a, vs, e, q, i a f, RepT.more i j ds vs r⟩
  | .ref n, _, h => by
    obtain ⟨a, e, q⟩ := h
    exact ⟨a, e, j n a q⟩
theorem Reps.more (i : ∀ a, F a → F' a) (j : ∀ (n : Nat) (a : Addr), φ[n]? = some a → φ'[n]? = some a) : ∀ (ds : List D) (vs : List V), Reps K φ F H ds vs → Reps K φ' F' H ds vs
  | [], _, h => h
  | d :: ds, _, h => by
    obtain ⟨v, r, e, q, t⟩ := h
    exact ⟨v, r, e, Rep.more i j d v q, Reps.more i j ds r t⟩
theorem RepK.more (i : ∀ a, F a → F' a) (j : ∀ (n : Nat) (a : Addr), φ[n]? = some a → φ'[n]? = some a) : ∀ (ds : List (D × D)) (vs : List (Key × V)), RepK K φ F H ds vs → RepK K φ' F' H ds vs
  | [], _, h => h
  | (_, d) :: ds, _, h => by
    obtain ⟨c, v, r, e, k, q, t⟩ := h
    exact ⟨c, v, r, e, k, Rep.more i j d v q, RepK.more i j ds r t⟩
theorem RepT.more (i : ∀ a, F a → F' a) (j : ∀ (n : Nat) (a : Addr), φ[n]? = some a → φ'[n]? = some a) : ∀ (ds : List (D × D)) (vs : List (List Key × V)), RepT K φ F H ds vs → RepT K φ' F' H ds vs
  | [], _, h => h
  | (_, d) :: ds, _, h => by
    obtain ⟨c, v, r, e, k, q, t⟩ := h
    exact ⟨c, v, r, e, k, Rep.more i j d v q, RepT.more i j ds r t⟩
end
theorem RepF.more (i : ∀ a, F a → F' a) (j : ∀ (n : Nat) (a : Addr), φ[n]? = some a → φ'[n]? = some a) : ∀ (ds : List (Str × D)) (vs : List (Str × V)), RepF K φ F H ds vs → RepF K φ' F' H ds vs
  | [], _, h => h
  | (_, d) :: ds, _, h => by
    obtain ⟨v, r, e, q, t⟩ := h
    exact ⟨v, r, e, Rep.more i j d v q, RepF.more i j ds r t⟩
theorem ObRep.more (i : ∀ a, F a → F' a) (j : ∀ (n : Nat) (a : Addr), φ[n]? = some a → φ'[n]? = some a) {a : Addr} : ∀ {ob : Ob}, ObRep K ca φ F H a ob → ObRep K ca φ' F' H a ob
  | .lst xs, ⟨vs, e, r⟩ => ⟨vs, e, Reps.more i j xs vs r⟩
  | .dct false xs, ⟨vs, e, r⟩ => ⟨vs, e, RepK.more i j xs vs r⟩
  | .dct true xs, ⟨vs, e, r⟩ => ⟨vs, e, RepT.more i j xs vs r⟩
  | .ins c fs, ⟨dx, vs, e, r⟩ => ⟨dx, vs, e, RepF.more i j fs vs r⟩
theorem StOk.addF (o : StOk K ca φ F H st) {r : Rv} {v : V} (h : RvRep K φ F H r v) : StOk K ca φ (addF F v r) H st :=
  ⟨base_addF o.base h, o.nd, o.len, fun n ob a e1 e2 => (o.obs n ob a e1 e2).more (fun _ z => .inl z) (fun _ _ z => z)⟩
/-- .. a value, then -/
theorem RvRep.give {r : Rv} {v : V} (h : RvRep K φ F H r v) : Rep K φ (Iv.addF F v r) H r.d v := by
  have i : ∀ a, F a → Iv.addF F v r a := fun _ z => .inl z
  match r, h with
  | .val d, h => exact Rep.more i (fun _ _ z => z) d v h
  | .lst xs, ⟨a, vs, e, q, rr, nf, np⟩ => exact ⟨a, vs, e, q, .inr ⟨rfl, e⟩, Reps.more i (fun _ _ z => z) xs vs rr⟩
  | .dct false xs, ⟨a, vs, e, q, rr, nf, np⟩ => exact ⟨a, vs, e, .inl q, .inr ⟨rfl, e⟩, RepK.more i (fun _ _ z => z) xs vs rr⟩
  | .dct true xs, ⟨a, vs, e, q, rr, nf, np⟩ => exact ⟨a, vs, e, .inl q, .inr ⟨rfl, e⟩, RepT.more i (fun _ _ z => z) xs vs rr⟩
end
end Iv

set_option Elab.async false
set_option linter.all false
set_option maxRecDepth 100000
set_option maxHeartbeats 1000000
/-! Iv, part B2: operations on values, as the machine does them. -/
namespace Iv
open PySem PySem.Spec PyProof.Rows L2

section
variable {K : PySem.W.Frag} {ca : Nat → Addr} {φ φ' : List Addr} {F F' : Addr → Prop} {H H' : Hp} {st st' : Sto} {σ : L2.St} {env : Env} {v x y : V} {d : D}
/-! ### what stands for what -/
theorem PRep.of (h : Rep K φ F H d v) : PRep K φ F H d v := .inl h
theorem Rv.d_val {r : Rv} (e : r.own = true) : (∃ xs, r = .lst xs) ∨ ∃ t ks, r = .dct t ks := by
  cases r with
  | val d => cases e
  | lst xs => exact .inl ⟨xs, rfl⟩
  | dct t ks => exact .inr ⟨t, ks, rfl⟩
/-- all but lists and dicts -/
def D.plain : D → Bool
  | .lst _ => false
  | .dct _ _ => false
  | _ => true
theorem PRep.plain (h : PRep K φ F H d v) (p : d.plain = true) : Rep K φ F H d v := by
  rcases h with h | ⟨r, e, o, _⟩
  · exact h
  · rcases Rv.d_val o with ⟨xs, rfl⟩ | ⟨t, ks, rfl⟩ <;> (subst e; cases p)
theorem PRep.int {i : Int} (h : PRep K φ F H (.int i) v) : v = .int i := h.plain rfl
theorem PRep.str {z : Str} (h : PRep K φ F H (.str z) v) : v = .str z := h.plain rfl
theorem PRep.bl {b : Bool} (h : PRep K φ F H (.bl b) v) : v = .bl b := h.plain rfl
theorem PRep.non (h : PRep K φ F H .non v) : v = .non := h.plain rfl
theorem PRep.tup {xs : List D} (h : PRep K φ F H (.tup xs) v) : ∃ a vs, v = .ref a ∧ SqT K H a vs ∧ Reps K φ F H xs vs := h.plain rfl
/-- a list as it is read -/
theorem PRep.lst {xs : List D} (h : PRep K φ F H (.lst xs) v) : ∃ a vs, v = .ref a ∧ H a = some (.lst vs) ∧ Reps K φ F H xs vs := by
  rcases h with h | ⟨r, e, o, h⟩
  · obtain ⟨a, vs, e, q, _, r⟩ := h
    exact ⟨a, vs, e, q, r⟩
  · rcases Rv.d_val o with ⟨ys, rfl⟩ | ⟨t, ks, rfl⟩
    · cases e
      obtain ⟨a, vs, e, q, r, _, _⟩ := h
      exact ⟨a, vs, e, q, r⟩
    · cases e
/-- the items of what is a list or a tuple -/
theorem items_ok (so : StOk K ca φ F H st) (h : PRep K φ F H d v) {xs : List D} (e : items st d = some xs) :
    ∃ a vs, v = .ref a ∧ (SqL K H a vs ∨ SqT K H a vs) ∧ Reps K φ F H xs vs := by
  unfold items at e
  split at e
  · cases e
    obtain ⟨a, vs, e, q, r⟩ := h.lst
    exact ⟨a, vs, e, .inl (SqL.of q), r⟩
  · cases e
    obtain ⟨a, vs, e, q, r⟩ := h.plain rfl
    exact ⟨a, vs, e, .inl (q H fun _ _ z => z), r⟩
  · cases e
    obtain ⟨a, vs, e, q, r⟩ := h.tup
    exact ⟨a, vs, e, .inr q, r⟩
  · split at e
    · rename_i n ys hn
      cases e
      obtain ⟨a, e, ha⟩ := h.plain rfl
      obtain ⟨vs, q, r⟩ := so.obs _ _ a hn ha
      exact ⟨a, vs, e, .inl (SqL.of q), r⟩
    · cases e
  · cases e
/-- .. a list, where it is no tuple -/
theorem items_list (so : StOk K ca φ F H st) (h : PRep K φ F H d v) {xs : List D} (e : items st d = some xs) (nt : ∀ ys, d ≠ .tup ys) :
    ∃ a vs, v = .ref a ∧ SqL K H a vs ∧ Reps K φ F H xs vs := by
  unfold items at e
  split at e
  · cases e
    obtain ⟨a, vs, e, q, r⟩ := h.lst
    exact ⟨a, vs, e, SqL.of q, r⟩
  · cases e
    obtain ⟨a, vs, e, q, r⟩ := h.plain rfl
    exact ⟨a, vs, e, q H fun _ _ z => z, r⟩
  · exact absurd rfl (nt _)
  · split at e
    · rename_i n ys hn
      cases e
      obtain ⟨a, e, ha⟩ := h.plain rfl
      obtain ⟨vs, q, r⟩ := so.obs _ _ a hn ha
      exact ⟨a, vs, e, SqL.of q, r⟩
    · cases e
  · cases e
/-! ### values as data -/
mutual
theorem py_ok : ∀ (d : D) (v : V) (p : PyData), Rep K φ F H d v → d.py = some p → Dp K H v p
  | .non, _, _, h, e => by cases e; cases (show _ = V.non from h); exact .non
  | .bl b, _, _, h, e => by cases e; cases (show _ = V.bl b from h); exact .bl b
  | .int i, _, _, h, e => by cases e; cases (show _ = V.int i from h); exact .int i
  | .str x, _, _, h, e => by cases e; cases (show _ = V.str x from h); exact .str x
  | .tup xs, _, _, h, e => by
    obtain ⟨a, vs, rfl, q, r⟩ := h
    simp only [D.py, Option.map_eq_some_iff] at e
    obtain ⟨ps, e1, rfl⟩ := e
    exact .tup q (pys_ok xs vs ps r e1)
  | .lst xs, _, _, h, e => by
    obtain ⟨a, vs, rfl, q, _, r⟩ := h
    simp only [D.py, Option.map_eq_some_iff] at e
    obtain ⟨ps, e1, rfl⟩ := e
    exact .lst (SqL.of q) (pys_ok xs vs ps r e1)
  | .scr xs, _, _, h, e => by
    obtain ⟨a, vs, rfl, q, r⟩ := h
    simp only [D.py, Option.map_eq_some_iff] at e
    obtain ⟨ps, e1, rfl⟩ := e
    exact .lst (q H fun _ _ z => z) (pys_ok xs vs ps r e1)
  | .dct _ _, _, _, _, e => by cases e
  | .ref _, _, _, _, e => by cases e
theorem pys_ok : ∀ (ds : List D) (vs : List V) (ps : List PyData), Reps K φ F H ds vs → D.pys ds = some ps → DpAll K H vs ps
  | [], _, _, h, e => by cases e; cases (show _ = [] from h); exact .nil
  | d :: ds, _, _, h, e => by
    obtain ⟨v, r, rfl, q, t⟩ := h
    simp only [D.pys, Option.bind_eq_some_iff, Option.map_eq_some_iff] at e
    obtain ⟨p, e1, ps, e2, rfl⟩ := e
    exact .cons (py_ok d v p q e1) (pys_ok ds r ps t e2)
end
theorem PRep.py (h : PRep K φ F H d v) {p : PyData} (e : d.py = some p) : Dp K H v p := by
  rcases h with h | ⟨r, e1, o, h⟩
  · exact py_ok d v p h e
  · rcases Rv.d_val o with ⟨xs, rfl⟩ | ⟨t, ks, rfl⟩
    · subst e1
      obtain ⟨a, vs, rfl, q, r, _, _⟩ := h
      simp only [Rv.d, D.py, Option.map_eq_some_iff] at e
      obtain ⟨ps, e1, rfl⟩ := e
      exact .lst (SqL.of q) (pys_ok xs vs ps r e1)
    · subst e1
      cases e
theorem vD_ok {w : V} (h : Rep K φ F H d v) (e : vD d = some w) : v = w ∧ flatV v = true := by
  cases d <;> simp only [vD, Option.some.injEq, reduceCtorEq] at e
  all_goals (subst e; cases (show v = _ from h); exact ⟨rfl, rfl⟩)
theorem vDs_ok : ∀ {ds : List D} {vs ws : List V}, Reps K φ F H ds vs → vDs ds = some ws → vs = ws ∧ vs.all flatV = true
  | [], _, _, h, e => by cases e; cases (show _ = [] from h); exact ⟨rfl, rfl⟩
  | d :: ds, _, _, h, e => by
    obtain ⟨v, r, rfl, q, t⟩ := h
    simp only [vDs, Option.bind_eq_some_iff, Option.map_eq_some_iff] at e
    obtain ⟨w, e1, ws, e2, rfl⟩ := e
    obtain ⟨e3, f⟩ := vD_ok q e1
    obtain ⟨e4, g⟩ := vDs_ok t e2
    subst e3 e4
    exact ⟨rfl, by rw [List.all_cons, f, g]; rfl⟩

/-! ### new objects -/
theorem step_new (b : Base φ F H) {p : Addr} {o : HO} (hp : H p = none) : Step φ F H φ F (upd H p o) :=
  ⟨fun _ _ h => h, fun _ h => h, fun a u h _ => by rw [upd_ne (ne_of_none h hp)]; exact h, fun a u h => ⟨u, by rw [upd_ne (ne_of_none h hp)]; exact h⟩, fun _ h => .inl h, fun _ h => .inl h⟩
theorem ObRep.step (b : Base φ F H) (s : Step φ F H φ' F' H') {a : Addr} (e : H' a = H a) : ∀ {ob : Ob}, ObRep K ca φ F H a ob → ObRep K ca φ' F' H' a ob
  | .lst xs, ⟨vs, q, r⟩ => ⟨vs, e.trans q, Reps.step b s xs vs r⟩
  | .dct false xs, ⟨vs, q, r⟩ => ⟨vs, e.trans q, RepK.step b s xs vs r⟩
  | .dct true xs, ⟨vs, q, r⟩ => ⟨vs, e.trans q, RepT.step b s xs vs r⟩
  | .ins c fs, ⟨dx, vs, q, r⟩ => ⟨dx, vs, e.trans q, RepF.step b s fs vs r⟩
theorem StOk.new (o : StOk K ca φ F H st) {p : Addr} {u : HO} (hp : H p = none) : StOk K ca φ F (upd H p u) st := by
  have s := step_new (o := u) o.base hp
  have ne : ∀ a, (∃ z, H a = some z) → upd H p u a = H a := fun a ⟨z, h⟩ => by rw [upd_ne (ne_of_none h hp)]
  refine ⟨⟨fun a ha => ?_, o.base.sep, fun a ha => ?_⟩, o.nd, o.len, fun n ob a e1 e2 => ?_⟩
  · obtain ⟨z, h, m⟩ := o.base.muo a ha
    exact ⟨z, (ne a ⟨z, h⟩).trans h, m⟩
  · obtain ⟨z, h⟩ := o.base.trk a ha
    exact ⟨z, (ne a ⟨z, h⟩).trans h⟩
  · obtain ⟨z, h, _⟩ := o.base.muo a (List.mem_of_getElem? e2)
    exact (o.obs n ob a e1 e2).step o.base s (ne a ⟨z, h⟩)
theorem Base.notNew (b : Base φ F H) {p : Addr} (hp : H p = none) : ¬ F p ∧ p ∉ φ :=
by
  refine ⟨fun h => ?_, fun h => ?_⟩
  · obtain ⟨o, e⟩ := b.trk p h
    rw [hp] at e
    cases e
  · obtain ⟨o, e, _⟩ := b.muo p h
    rw [hp] at e
    cases e
/-- a new tuple -/
theorem new_tup (o : StOk K ca φ F H st) {p : Addr} {ds : List D} {vs : List V} (hp : H p = none) (r : Reps K φ F H ds vs) : Rep K φ F (upd H p (.tup vs)) (.tup ds) (.ref p) :=
  ⟨p, vs, rfl, SqT.of upd_same, Reps.step o.base (step_new o.base hp) ds vs r⟩
/-- a new list -/
theorem new_lst (o : StOk K ca φ F H st) {p : Addr} {ds : List D} {vs : List V} (hp : H p = none) (r : Reps K φ F H ds vs) :
    RvRep K φ F (upd H p (.lst vs)) (.lst ds) (.ref p) ∧ Frs H (.lst ds) (.ref p) :=
  ⟨⟨p, vs, rfl, upd_same, Reps.step o.base (step_new o.base hp) ds vs r, (o.base.notNew hp).1, (o.base.notNew hp).2⟩, fun _ a e => by cases e; exact hp⟩
end

/-! ### operators -/
/-- what is wanted of a result -/
def Want (K : PySem.W.Frag) (ca : Nat → Addr) (φ : List Addr) (F : Addr → Prop) (H : Hp) (r : Rv) (st : Sto) (Q : VK) : Prop :=
  ∀ φ' F' H' v, Step φ F H φ' F' H' → StOk K ca φ' F' H' st → RvRep K φ' F' H' r v → Frs H r v → Q v H'
section
variable {K : PySem.W.Frag} {ca : Nat → Addr} {φ φ' : List Addr} {F F' : Addr → Prop} {H H' : Hp} {st st' : Sto} {r : Rv} {Q : VK}
theorem Want.val {d : D} {v : V} (k : Want K ca φ F H (.val d) st Q) (o : StOk K ca φ F H st) (h : Rep K φ F H d v) : Q v H := k φ F H v Step.refl o h (fun z => nomatch z)
theorem Want.tup {ds : List D} {vs : List V} (k : Want K ca φ F H (.val (.tup ds)) st Q) (o : StOk K ca φ F H st) (r : Reps K φ F H ds vs) : ∀ p, H p = none → Q (.ref p) (upd H p (.tup vs)) :=
  fun p hp => k φ F _ _ (step_new o.base hp) (o.new hp) (new_tup o hp r) (fun z => nomatch z)
theorem Want.lst {ds : List D} {vs : List V} (k : Want K ca φ F H (.lst ds) st Q) (o : StOk K ca φ F H st) (r : Reps K φ F H ds vs) : ∀ p, H p = none → Q (.ref p) (upd H p (.lst vs)) :=
  fun p hp => k φ F _ _ (step_new o.base hp) (o.new hp) (new_lst o hp r).1 (new_lst o hp r).2
/-- the result is wanted as a value -/
theorem Want.give (k : ∀ φ' F' H' v, Step φ F H φ' F' H' → StOk K ca φ' F' H' st → Rep K φ' F' H' r.d v → Q v H') (b : Base φ F H) : Want K ca φ F H r st Q :=
  fun φ' F' H' v s o h f => k φ' (addF F' v r) H' v (step_addF s f) (o.addF h) h.give
theorem Want.mono {Q' : VK} (k : Want K ca φ F H r st Q) (h : ∀ v H', Q v H' → Q' v H') : Want K ca φ F H r st Q' := fun φ' F' H' v s o q f => h v H' (k φ' F' H' v s o q f)
end

def Bop.op : Bop → Operator
  | .add => .Add
  | .sub => .Sub
  | .mul => .Mult
  | .fdv => .FloorDiv
  | .mod => .Mod
  | .pow => .Pow
  | .shl => .LShift
  | .shr => .RShift
def bopT (K : PySem.W.Frag) (ca : Nat → Addr) (o : Bop) : R2 := fun x y H Q => ∃ φ F st a b r, StOk K ca φ F H st ∧ PRep K φ F H a x ∧ PRep K φ F H b y ∧ bopR o a b = some r ∧ Want K ca φ F H r st Q
theorem sz16 : (16777216 : Nat) = sizeLine := sizeLine_eq.symm
theorem bop_ok {X : Cx} {ca : Nat → Addr} (o : Bop) : OpR X (binaryOp o.op) (bopT X.K ca o) := by
  intro pins s σ H x y v u Q I rx ry ⟨φ, F, st, a, b, r, so, ha, hb, e, k⟩
  unfold bopR at e
  split at e
  · cases e; cases ha.int; cases hb.int
    exact op_add pins s σ H _ _ v u Q I rx ry ⟨_, _, rfl, rfl, k.val so rfl⟩
  · split at e
    · cases e; cases ha.str; cases hb.str
      exact op_add_str pins s σ H _ _ v u Q I rx ry ⟨_, _, rfl, rfl, by rw [← sz16]; assumption, k.val so rfl⟩
    · cases e
  · split at e
    · rename_i xs ys hl
      cases e
      obtain ⟨p, vs, rfl, q1, r1⟩ := ha.tup
      obtain ⟨q, ws, rfl, q2, r2⟩ := hb.tup
      have l1 := r1.length
      have l2 := r2.length
      refine op_catA pins s σ H _ _ v u Q I rx ry ⟨p, q, vs, ws, rfl, rfl, q1, q2, by rw [← sz16, l1, l2]; exact hl, fun z => ?_, fun _ z => ?_, fun _ _ => k.tup so (r1.append r2)⟩
      · subst z
        have : xs = [] := List.length_eq_zero_iff.mp l1.symm
        subst this
        exact k.val so ⟨q, ws, rfl, q2, r2⟩
      · subst z
        have : ys = [] := List.length_eq_zero_iff.mp l2.symm
        subst this
        exact k.val so ⟨p, vs, rfl, q1, by simpa using r1⟩
    · cases e
  · split at e
    · rename_i xs ys hl
      cases e
      obtain ⟨p, vs, rfl, q1, r1⟩ := ha.lst
      obtain ⟨q, ws, rfl, q2, r2⟩ := hb.lst
      have l1 := r1.length
      have l2 := r2.length
      exact op_cat pins s σ H _ _ v u Q I rx ry ⟨p, q, vs, ws, rfl, rfl, q1, q2, by rw [← sz16, l1, l2]; exact hl, k.lst so (r1.append r2)⟩
    · cases e
  · cases e; cases ha.int; cases hb.int
    exact op_sub pins s σ H _ _ v u Q I rx ry ⟨_, _, rfl, rfl, k.val so rfl⟩
  · split at e
    · rename_i i j hc
      cases e; cases ha.int; cases hb.int
      simp only [small, Bool.or_eq_true, Bool.and_eq_true, decide_eq_true_eq] at hc
      rcases hc with (hc | hc) | hc
      · exact op_mul pins s σ H _ _ v u Q I rx ry ⟨_, _, rfl, rfl, .inl hc, k.val so rfl⟩
      · exact op_mul pins s σ H _ _ v u Q I rx ry ⟨_, _, rfl, rfl, .inr hc, k.val so rfl⟩
      · exact op_mulW pins s σ H _ _ v u Q I rx ry ⟨_, _, rfl, rfl, hc, k.val so rfl⟩
    · cases e
  · split at e
    · rename_i i j hc
      cases e; cases ha.int; cases hb.int
      simp only [Bool.and_eq_true, decide_eq_true_eq] at hc
      exact op_fdivW pins s σ H _ _ v u Q I rx ry ⟨_, _, rfl, rfl, hc, k.val so rfl⟩
    · cases e
  · split at e
    · rename_i i j hc
      cases e; cases ha.int; cases hb.int
      exact op_mod pins s σ H _ _ v u Q I rx ry ⟨_, _, rfl, rfl, hc, k.val so rfl⟩
    · cases e
  · split at e
    · rename_i i j hc
      cases e; cases ha.int; cases hb.int
      simp only [Bool.and_eq_true, decide_eq_true_eq] at hc
      exact op_pow pins s σ H _ _ v u Q I rx ry ⟨_, _, rfl, rfl, hc, k.val so rfl⟩
    · cases e
  · split at e
    · rename_i i j hc
      cases e; cases ha.int; cases hb.int
      simp only [Bool.and_eq_true, decide_eq_true_eq] at hc
      exact op_shl pins s σ H _ _ v u Q I rx ry ⟨_, _, rfl, rfl, hc, k.val so rfl⟩
    · cases e
  · split at e
    · rename_i i j hc
      cases e; cases ha.int; cases hb.int
      exact op_shr pins s σ H _ _ v u Q I rx ry ⟨_, _, rfl, rfl, hc, k.val so rfl⟩
    · cases e
  · cases e

/-! ### comparisons -/
def Cop.op : Cop → CmpOp
  | .eq => .Eq
  | .ne => .NotEq
  | .lt => .Lt
  | .le => .LtE
  | .gt => .Gt
  | .ge => .GtE
  | .isN => .Is
  | .notN => .IsNot
  | .inn => .In
  | .nin => .NotIn
def copT (K : PySem.W.Frag) (ca : Nat → Addr) (o : Cop) : R2 := fun x y H Q => ∃ φ F st a b r, StOk K ca φ F H st ∧ PRep K φ F H a x ∧ PRep K φ F H b y ∧ copR st o a b = some r ∧ Q (.bl r) H
theorem in_ok {X : Cx} {ca : Nat → Addr} (hu : X.A.units + 65 < cLine) (neg : Bool) {pins : List (Addr × Obj)} {s : Shared} {σ : L2.St} {H : Hp} {x y : V} {v u : Value} {Q : VK} (I : Inv X pins σ H s) (rx : RelV x v) (ry : RelV y u)
    {φ : List Addr} {F : Addr → Prop} {st : Sto} {a b : D} {r : Bool} (so : StOk X.K ca φ F H st) (ha : PRep X.K φ F H a x) (hb : PRep X.K φ F H b y) (e : inD st a b = some r) (q : Q (.bl (if neg then !r else r)) H) :
    wpAny (model X.prog X.w) X.A (compareOp (if neg then .NotIn else .In) v u) (EP X pins σ Q) X.xe s := by
  unfold inD at e
  split at e
  · split at e
    · cases e; cases ha.str; cases hb.str
      cases neg with
      | false => exact op_in_str pins s σ H _ _ v u Q I rx ry ⟨_, _, rfl, rfl, q⟩
      | true => exact op_notIn_str pins s σ H _ _ v u Q I rx ry ⟨_, _, rfl, rfl, q⟩
    · cases e
  · simp only [Option.bind_eq_some_iff, Option.map_eq_some_iff] at e
    obtain ⟨z, e1, zs, e2, rfl⟩ := e
    obtain ⟨p, vs, rfl, q1, r1⟩ := hb.tup
    have pl : a.plain = true := by cases a <;> first | rfl | (cases e1)
    obtain ⟨e3, f⟩ := vD_ok (ha.plain pl) e1
    obtain ⟨e4, g⟩ := vDs_ok r1 e2
    subst e3 e4
    cases neg with
    | false => exact op_in_seq pins s σ H _ _ v u Q I rx ry ⟨p, _, rfl, .inr q1, f, g, q⟩
    | true => exact op_notIn_seq pins s σ H _ _ v u Q I rx ry ⟨p, _, rfl, .inr q1, f, g, q⟩
  · rename_i hs ht
    simp only [Option.bind_eq_some_iff] at e
    obtain ⟨ys, e1, d, e2, ds, e3, e4⟩ := e
    split at e4
    · rename_i hc
      cases e4
      simp only [Bool.and_eq_true] at hc
      obtain ⟨p, vs, rfl, q1, r1⟩ := items_list so hb e1 (fun ys z => ht ys z)
      have dy : Dp X.K H (.ref p) (.list ds) := .lst q1 (pys_ok ys vs ds r1 e3)
      cases neg with
      | false => exact op_inD hu pins s σ H _ _ v u Q I rx ry ⟨d, ds, ha.py e2, dy, hc.1, hc.2, q⟩
      | true => exact op_notInD hu pins s σ H _ _ v u Q I rx ry ⟨d, ds, ha.py e2, dy, hc.1, hc.2, q⟩
    · cases e4
theorem cop_ok {X : Cx} {ca : Nat → Addr} (hu : X.A.units + 65 < cLine) (o : Cop) : OpR X (compareOp o.op) (copT X.K ca o) := by
  intro pins s σ H x y v u Q I rx ry ⟨φ, F, st, a, b, r, so, ha, hb, e, k⟩
  have hu' : X.A.units + 64 < cLine := by omega
  unfold copR at e
  split at e
  · unfold eqD at e
    split at e
    · rename_i p q e1 e2
      split at e
      · rename_i hc
        cases e
        simp only [Bool.and_eq_true] at hc
        exact op_eqD hu' pins s σ H _ _ v u Q I rx ry ⟨p, q, ha.py e1, hb.py e2, hc.1, hc.2, k⟩
      · cases e
    · cases e
  · simp only [Option.map_eq_some_iff] at e
    obtain ⟨c, e, rfl⟩ := e
    unfold eqD at e
    split at e
    · rename_i p q e1 e2
      split at e
      · rename_i hc
        cases e
        simp only [Bool.and_eq_true] at hc
        exact op_neD hu' pins s σ H _ _ v u Q I rx ry ⟨p, q, ha.py e1, hb.py e2, hc.1, hc.2, k⟩
      · cases e
    · cases e
  · cases e; cases ha.int; cases hb.int
    exact op_lt pins s σ H _ _ v u Q I rx ry ⟨_, _, rfl, rfl, k⟩
  · cases e; cases ha.int; cases hb.int
    exact op_le pins s σ H _ _ v u Q I rx ry ⟨_, _, rfl, rfl, k⟩
  · cases e; cases ha.int; cases hb.int
    exact op_gt pins s σ H _ _ v u Q I rx ry ⟨_, _, rfl, rfl, k⟩
  · cases e; cases ha.int; cases hb.int
    exact op_ge pins s σ H _ _ v u Q I rx ry ⟨_, _, rfl, rfl, k⟩
  · cases e; cases hb.non
    have : decide (a = .non) = decide (x = .non) := by
      by_cases h : a = .non
      · subst h
        rw [ha.non]
        simp
      · have : x ≠ .non := fun z => by
          subst z
          rcases ha with ha | ⟨r, _, o, ha⟩
          · cases a <;> first | exact h rfl | (cases (show V.non = _ from ha)) | (obtain ⟨_, _, q, _⟩ := ha; cases q) | (obtain ⟨_, q, _⟩ := ha; cases q) | (rename_i t _; cases t <;> (obtain ⟨_, _, q, _⟩ := ha; cases q))
          · obtain ⟨_, _, q, _⟩ := ha.own_at o
            cases q
        rw [decide_eq_false h, decide_eq_false this]
    exact op_isN pins s σ H _ _ v u Q I rx ry ⟨rfl, by rw [← this]; exact k⟩
  · cases e; cases hb.non
    have : decide (a = .non) = decide (x = .non) := by
      by_cases h : a = .non
      · subst h
        rw [ha.non]
        simp
      · have : x ≠ .non := fun z => by
          subst z
          rcases ha with ha | ⟨r, _, o, ha⟩
          · cases a <;> first | exact h rfl | (cases (show V.non = _ from ha)) | (obtain ⟨_, _, q, _⟩ := ha; cases q) | (obtain ⟨_, q, _⟩ := ha; cases q) | (rename_i t _; cases t <;> (obtain ⟨_, _, q, _⟩ := ha; cases q))
          · obtain ⟨_, _, q, _⟩ := ha.own_at o
            cases q
        rw [decide_eq_false h, decide_eq_false this]
    exact op_notN pins s σ H _ _ v u Q I rx ry ⟨rfl, by rw [← this]; exact k⟩
  · exact in_ok hu false I rx ry so ha hb e k
  · simp only [Option.map_eq_some_iff] at e
    obtain ⟨c, e, rfl⟩ := e
    exact in_ok hu true I rx ry so ha hb e k
  · cases e

/-! ### truth -/
theorem tru_v {K : PySem.W.Frag} {ca : Nat → Addr} {φ : List Addr} {F : Addr → Prop} {H : Hp} {st : Sto} {d : D} {x : V} {k : Bool} (so : StOk K ca φ F H st) (h : PRep K φ F H d x) (e : tru st d = some k) : TruV K x H k := by
  unfold tru at e
  split at e
  · cases e; cases h.non; exact rfl
  · cases e; cases h.bl; exact rfl
  · cases e; cases h.int; exact rfl
  · split at e
    · rename_i z hl
      cases e; cases h.str
      refine ⟨by rw [← sz16]; exact hl, ?_⟩
      show (z.length != 0) = ((z.length : Int) != 0)
      cases z.length with
      | zero => rfl
      | succ n => rfl
    · cases e
  · simp only [Option.map_eq_some_iff] at e
    obtain ⟨xs, e, rfl⟩ := e
    obtain ⟨a, vs, rfl, q, r⟩ := items_ok so h e
    have em := r.empty
    rcases q with q | q
    · exact .inl ⟨vs, q, by rw [em]⟩
    · exact .inr (.inl ⟨vs, q, by rw [em]⟩)
end Iv

set_option Elab.async false
set_option linter.all false
set_option maxRecDepth 100000
set_option maxHeartbeats 1000000
/-! Iv, part B3: which term of the small language an expression of the text is; readings. -/
namespace Iv
open PySem PySem.Spec PyProof.Rows L2

/-! ### names, what may stand where -/
structure Sta where
  Tb : Tab
  glos : List (Str × D)
  frees : List Str
def visB (sc : Scope) (x : Str) : Bool := match sc.names.lookup x with
  | some .local => true
  | some .cell => true
  | some .free => true
  | _ => false
def locB (sc : Scope) (fnc : Str → Bool) (x : Str) : Bool := match sc.names.lookup x with
  | some .local => true
  | some .cell => fnc x
  | _ => false
def glB (sc : Scope) (x : Str) : Bool := decide (sc.names.lookup x = some .globalImplicit)
def noDbg (x : Str) : Bool := !(x == ("__debug__" : Str)) && !(x == ("__classdict__" : Str))
def nmB (N : List Str) (sc : Scope) (i : Nat) (x : Str) : Bool := decide (N[i]? = some x) && (visB sc x && noDbg x)
def ckC : D → Const → Bool
  | .non, .none => true
  | .bl b, .bool c => b == c
  | .int i, .int j => decide (i = j)
  | .str x, .str y => decide (x = y)
  | _, _ => false
/-- a plain expression: no star, no slice, no set, none of the words of a comprehension's own kind -/
def plainX : Expr → Bool
  | .Starred _ _ => false
  | .Slice _ _ _ _ => false
  | .Set _ _ _ => false
  | .SetComp _ _ _ _ => false
  | .DictComp _ _ _ _ _ => false
  | _ => true
/-- whose truth is its value's -/
def simpleX : Expr → Bool
  | .UnaryOp .Not _ _ => false
  | .BoolOp _ _ _ => false
  | .IfExp _ _ _ _ => false
  | .Compare _ _ _ _ => false
  | _ => true
def noComp : Expr → Bool
  | .ListComp _ _ _ _ => false
  | .SetComp _ _ _ _ => false
  | .DictComp _ _ _ _ _ => false
  | _ => true
def noCall : Expr → Bool
  | .Call _ _ _ _ => false
  | _ => true
def Blt.name : Blt → String
  | .len => "len"
  | .int => "int"
  | .list => "list"
  | .tuple => "tuple"
  | .sorted => "sorted"
  | .str => "str"
  | .isList => "isinstance"
  | .isBool => "isinstance"
def T.within (vs : List Nat) : T → Bool
  | .nm i => vs.contains i
  | .tup ts => go ts
  | .ix _ _ => false
where go : Ts → Bool
  | .nil => true
  | .cons (.nm i) ts => vs.contains i && go ts
  | .cons _ _ => false
def ownOf (N : List Str) (vs : List Nat) : List (Str × Nat) := vs.map fun v => (N.getD v ⟨#[]⟩, v)

section
variable (S : Sta) (N : List Str)
mutual
def ckE (sc : Scope) (fnc : Str → Bool) : E → Expr → Bool
  | .var i, x => (match x with
    | .Name y _ => nmB N sc i y
    | _ => false)
  | .con d, x => (match x with
    | .Constant c _ _ => ckC d c
    | _ => false)
  | .glo g d, x => (match x with
    | .Name y _ => decide (y = g) && (glB sc g && (noDbg g && S.glos.contains (g, d)))
    | _ => false)
  | .tup es, x => (match x with
    | .Tuple xs _ _ => ckEs sc fnc es xs
    | _ => false)
  | .lst es, x => (match x with
    | .List xs _ => ckEs sc fnc es xs
    | _ => false)
  | .dic _, x => (match x with
    | .Dict [] [] _ => true
    | _ => false)
  | .pro e, x => simpleX x && ckE sc fnc e x
  | .bop o a b, x => (match x with
    | .BinOp l p r _ => decide (p = o.op) && (ckE sc fnc a l && ckE sc fnc b r)
    | _ => false)
  | .neg a, x => (match x with
    | .UnaryOp .USub l _ => ckE sc fnc a l
    | _ => false)
  | .nt a, x => (match x with
    | .UnaryOp .Not l _ => ckE sc fnc a l
    | _ => false)
  | .cmp o a b, x => (match x with
    | .Compare l [p] [r] _ => decide (p = o.op) && (ckE sc fnc a l && ckE sc fnc b r)
    | _ => false)
  | .chain o o' a b c, x => (match x with
    | .Compare l [p, p'] [m, r] _ => decide (p = o.op) && (decide (p' = o'.op) && (ckE sc fnc a l && (ckE sc fnc b m && ckE sc fnc c r)))
    | _ => false)
  | .and a b, x => (match x with
    | .BoolOp .And (l :: m :: r) pos => ckE sc fnc a l && (match r with
      | [] => ckE sc fnc b m
      | _ :: _ => ckE sc fnc b (.BoolOp .And (m :: r) pos))
    | _ => false)
  | .or a b, x => (match x with
    | .BoolOp .Or (l :: m :: r) pos => ckE sc fnc a l && (match r with
      | [] => ckE sc fnc b m
      | _ :: _ => ckE sc fnc b (.BoolOp .Or (m :: r) pos))
    | _ => false)
  | .ix a i, x => (match x with
    | .Subscript l m _ => ckE sc fnc a l && ckE sc fnc i m
    | _ => false)
  | .sl a lo hi, x => (match x with
    | .Subscript l (.Slice p q none _) _ => ckE sc fnc a l && (ckEo sc fnc lo p && ckEo sc fnc hi q)
    | _ => false)
  | .call f es, x => (match x with
    | .Call (.Name y _) xs [] _ => (match S.Tb.fns[f]? with
      | some fn => decide (fn.at_ = (y, none))
      | none => false) && (glB sc y && (noDbg y && ckEs sc fnc es xs))
    | _ => false)
  | .blt b es, x => (match x with
    | .Call (.Name y _) xs [] _ => decide (y = Str.ofString b.name) && (glB sc y && (S.frees.contains y && (match b with
      | .isList => false
      | .isBool => false
      | _ => ckEs sc fnc es xs)))
    | _ => false)
  | .mth _ _ _, _ => false
  | .att _ _, _ => false
  | .met _ _ _ _, _ => false
  | .new _ _, _ => false
  | .lc vs t it c e, x => (match x with
    | .ListComp elt [⟨tg, iter, ifs, k⟩] scope _ => decide (k = 0) && (blkC N sc scope (ownOf N vs) && (t.within vs && (ckIt sc fnc it iter && (ckT (relS scope sc) (fun x => scope.names.lookup x == some .cell) t tg &&
        (ckEt (relS scope sc) (fun x => scope.names.lookup x == some .cell) c ifs && ckE (relS scope sc) (fun x => scope.names.lookup x == some .cell) e elt)))))
    | _ => false)
def ckEs (sc : Scope) (fnc : Str → Bool) : Es → List Expr → Bool
  | .nil, xs => (match xs with
    | [] => true
    | _ :: _ => false)
  | .cons e es, xs => (match xs with
    | x :: r => ckE sc fnc e x && ckEs sc fnc es r
    | [] => false)
def ckEo (sc : Scope) (fnc : Str → Bool) : Eo → Option Expr → Bool
  | .non, x => (match x with
    | none => true
    | some _ => false)
  | .som e, x => (match x with
    | some x => ckE sc fnc e x
    | none => false)
/-- a comprehension's test -/
def ckEt (sc : Scope) (fnc : Str → Bool) : Eo → List Expr → Bool
  | .non, x => (match x with
    | [] => true
    | _ :: _ => false)
  | .som e, x => (match x with
    | [x] => ckE sc fnc e x
    | _ => false)
def ckT (sc : Scope) (fnc : Str → Bool) : T → Expr → Bool
  | .nm i, x => (match x with
    | .Name y _ => decide (N[i]? = some y) && locB sc fnc y
    | _ => false)
  | .ix o k, x => (match x with
    | .Subscript l m _ => ckE sc fnc o l && ckE sc fnc k m
    | _ => false)
  | .tup ts, x => (match x with
    | .Tuple xs _ _ => ckTs sc fnc ts xs
    | _ => false)
def ckTs (sc : Scope) (fnc : Str → Bool) : Ts → List Expr → Bool
  | .nil, xs => (match xs with
    | [] => true
    | _ :: _ => false)
  | .cons t ts, xs => (match xs with
    | x :: r => ckT sc fnc t x && ckTs sc fnc ts r
    | [] => false)
def ckIt (sc : Scope) (fnc : Str → Bool) : It → Expr → Bool
  | .seq e, x => ckE sc fnc e x
  | .rng1 a, x => (match x with
    | .Call (.Name y _) [l] [] _ => decide (y = ("range" : Str)) && (glB sc y && (S.frees.contains y && ckE sc fnc a l))
    | _ => false)
  | .rng2 a b, x => (match x with
    | .Call (.Name y _) [l, m] [] _ => decide (y = ("range" : Str)) && (glB sc y && (S.frees.contains y && (ckE sc fnc a l && ckE sc fnc b m)))
    | _ => false)
end
end

/-! ### what stands around -/
/-- the text's facts: where its defs, its constants are -/
structure Fct (S : Sta) (K : PySem.W.Frag) (mg : Str → Option Value) (fa : Nat → Addr) : Prop where
  fns : ∀ (f : Nat) (fn : Fn) (x : Str), S.Tb.fns[f]? = some fn → fn.at_ = (x, none) → mg x = some (.ref (fa f)) ∧ PySem.W.keepIn K (.ref (fa f)) = true
  glos : ∀ x d, (x, d) ∈ S.glos → ∃ u v, mg x = some u ∧ RelV v u ∧ ∀ φ F H, Rep K φ F H d v
  frees : ∀ x, x ∈ S.frees → mg x = none
/-- a def's promise, by what it does -/
def spF (K : PySem.W.Frag) (ca : Nat → Addr) (g : List D → Sto → Option (Rv × Sto)) : Sp := fun vs H Q _ => ∃ φ F st ds r st', StOk K ca φ F H st ∧ Reps K φ F H ds vs ∧ g ds st = some (r, st') ∧ Want K ca φ F H r st' Q
/-- a call keeps a promise here -/
def CallP (X : Cx) (f : Addr) (sp : Sp) : Prop := ∀ (pins : List (Addr × Obj)) (s : Shared) (σ : L2.St) (H : Hp) (vs : List V) (us : List Value) (Q : VK), Inv X pins σ H s → Vals vs us → sp vs H Q (fun _ _ _ => False) →
  wpAny (model X.prog X.w) X.A (call (.ref f) us) (EP X pins σ Q) X.xe s
def Sim (X Y : Cx) : Prop := Y.prog = X.prog ∧ Y.w = X.w ∧ Y.K = X.K ∧ Y.mg = X.mg ∧ Y.base = X.base ∧ Y.A = X.A
structure XOk (S : Sta) (K : PySem.W.Frag) (ca fa : Nat → Addr) (C : Calls) (N : List Str) (sc : Scope) (fnc : Str → Bool) (X : Cx) : Prop where
  k : X.K = K
  n : X.N = N
  sc : X.env.scope = sc
  nd : N.Nodup
  calm : X.calm = true
  fnc : ∀ x, fnc x = true → X.fn x = true
  units : X.A.units + 200 < cLine
  grd : X.A.guards = some []
  fct : Fct S K X.mg fa
  calls : ∀ (Y : Cx), Sim X Y → ∀ (f : Nat) (fn : Fn), S.Tb.fns[f]? = some fn → CallP Y (fa f) (spF K ca (C.call f))

/-! ### readings -/
section
variable (K : PySem.W.Frag) (ca : Nat → Addr) (C : Calls)
/-- what is wanted behind, of a moment to come -/
def After (φ : List Addr) (F : Addr → Prop) (H : Hp) (st : Sto) (P : List Addr → (Addr → Prop) → Hp → Prop) : Prop := ∀ φ' F' H', Step φ F H φ' F' H' → StOk K ca φ' F' H' st → P φ' F' H'
def tE (e : E) : TE := fun σ H Q => ∃ φ F env st r st', StOk K ca φ F H st ∧ EnvOk K φ F H σ env ∧ evE C e env st = some (r, st') ∧ Want K ca φ F H r st' Q
def tP (e : E) : TE := fun σ H Q => ∃ φ F env st d st', StOk K ca φ F H st ∧ EnvOk K φ F H σ env ∧ pk e env st (evE C e env st) = some (d, st') ∧
  After K ca φ F H st' fun φ' F' H' => ∀ v, PRep K φ' F' H' d v → Q v H'
def tB_ (e : E) : TT := fun σ H Q => ∃ φ F env st b st', StOk K ca φ F H st ∧ EnvOk K φ F H σ env ∧ evT C e env st = some (b, st') ∧ After K ca φ F H st' fun _ _ H' => Q b H'
def tA_ (es : Es) : TA := fun σ H Q => ∃ φ F env st ds st', StOk K ca φ F H st ∧ EnvOk K φ F H σ env ∧ evEs C es env st = some (ds, st') ∧
  After K ca φ F H st' fun φ' F' H' => ∀ vs, Reps K φ' F' H' ds vs → Q vs H'
/-- operands, each for the moment -/
def PReps (K : PySem.W.Frag) (φ : List Addr) (F : Addr → Prop) (H : Hp) : List D → List V → Prop
  | [], vs => vs = []
  | d :: ds, vs => ∃ v r, vs = v :: r ∧ PRep K φ F H d v ∧ PReps K φ F H ds r
def tAP (es : Es) : TA := fun σ H Q => ∃ φ F env st ds st', StOk K ca φ F H st ∧ EnvOk K φ F H σ env ∧ evPs C es env st = some (ds, st') ∧
  After K ca φ F H st' fun φ' F' H' => ∀ vs, PReps K φ' F' H' ds vs → Q vs H'
def tO_ (e : Eo) : TO := fun σ H Q => ∃ φ F env st o st', StOk K ca φ F H st ∧ EnvOk K φ F H σ env ∧ evEo C e env st = some (o, st') ∧ After K ca φ F H st' fun _ _ H' => Q o H'
def tEt (e : Eo) : TT := fun σ H Q => ∃ φ F env st b st', StOk K ca φ F H st ∧ EnvOk K φ F H σ env ∧ evEt C e env st = some (b, st') ∧ After K ca φ F H st' fun _ _ H' => Q b H'
end

/-! ### weaker readings -/
section
variable {X : Cx}
theorem PE_w {e : Expr} {t t' : TE} (h : PE X e t) (w : ∀ σ H Q, t' σ H Q → t σ H Q) : PE X e t' := ⟨fun pins s σ H Q I q => h.run pins s σ H Q I (w σ H Q q)⟩
theorem PT_w {e : Expr} {t t' : TT} (h : PT X e t) (w : ∀ σ H Q, t' σ H Q → t σ H Q) : PT X e t' := ⟨fun pins s σ H Q I q => h.run pins s σ H Q I (w σ H Q q)⟩
theorem PW_w {e : Expr} {t t' : TT} (h : PW X e t) (w : ∀ σ H Q, t' σ H Q → t σ H Q) : PW X e t' := ⟨fun wh pins s σ H Q I q => h.run wh pins s σ H Q I (w σ H Q q)⟩
theorem PA_w {e : List Expr} {t t' : TA} (h : PA X e t) (w : ∀ σ H Q, t' σ H Q → t σ H Q) : PA X e t' := ⟨fun pos pins s σ H Q I q => h.run pos pins s σ H Q I (w σ H Q q)⟩
theorem PO_w {e : Option Expr} {t t' : TO} (h : PO X e t) (w : ∀ σ H Q, t' σ H Q → t σ H Q) : PO X e t' := ⟨fun pins s σ H Q I q => h.run pins s σ H Q I (w σ H Q q)⟩
theorem PTs_w {e : List Expr} {t t' : TT} (h : PTs X e t) (w : ∀ σ H Q, t' σ H Q → t σ H Q) : PTs X e t' := ⟨fun pins s σ H Q I q => h.run pins s σ H Q I (w σ H Q q)⟩
theorem PI_w {tg e : Expr} {t t' : TI} (h : PI X tg e t) (w : ∀ σ H Q, t' σ H Q → t σ H Q) : PI X tg e t' := ⟨fun pins s σ H Q I q => h.run pins s σ H Q I (w σ H Q q)⟩
theorem PI_or {tg e : Expr} {t t' : TI} (h : PI X tg e t) (h' : PI X tg e t') : PI X tg e (fun σ H Q => t σ H Q ∨ t' σ H Q) := ⟨fun pins s σ H Q I q => by
  rcases q with q | q
  · exact h.run pins s σ H Q I q
  · exact h'.run pins s σ H Q I q⟩
theorem PE_or {e : Expr} {t t' : TE} (h : PE X e t) (h' : PE X e t') : PE X e (fun σ H Q => t σ H Q ∨ t' σ H Q) := ⟨fun pins s σ H Q I q => by
  rcases q with q | q
  · exact h.run pins s σ H Q I q
  · exact h'.run pins s σ H Q I q⟩
theorem starEach_plain {x : Expr} {xs : List Expr} {env : PySem.Env} (h : plainX x = true) : starEach (x :: xs) env = (false, eval x env) :: starEach xs env := by
  cases x <;> first | rfl | (cases h)
end
end Iv

set_option Elab.async false
set_option linter.all false
set_option maxRecDepth 100000
set_option maxHeartbeats 2000000
/-! Iv, part B4: expressions do what the small language says. -/
namespace Iv
open PySem PySem.Spec PyProof.Rows L2

section
variable {S : Sta} {K : PySem.W.Frag} {ca fa : Nat → Addr} {C : Calls} {N : List Str} {sc : Scope} {fnc : Str → Bool} {X : Cx}
theorem nmB_ok (hx : XOk S K ca fa C N sc fnc X) {i : Nat} {y : Str} {pos : Pos} (h : nmB N sc i y = true) : PE X (.Name y pos) (tVar i) := by
  unfold nmB noDbg at h
  simp only [Bool.and_eq_true, decide_eq_true_eq, Bool.not_eq_true'] at h
  obtain ⟨h1, h2, h3, h4⟩ := h
  refine pe_var (by rw [hx.n]; exact h1) ?_ h3 h4
  unfold visB at h2
  show X.env.scope.names.lookup y = some .local ∨ X.env.scope.names.lookup y = some .cell ∨ X.env.scope.names.lookup y = some .free
  rw [hx.sc]
  split at h2
  · exact .inl (by assumption)
  · exact .inr (.inl (by assumption))
  · exact .inr (.inr (by assumption))
  · cases h2
theorem plainX_of : ∀ {e : E} {x : Expr} {sc : Scope} {fnc : Str → Bool}, ckE S N sc fnc e x = true → plainX x = true
  | .var _, x, _, _, h => by cases x <;> simp_all [ckE, plainX]
  | .con _, x, _, _, h => by cases x <;> simp_all [ckE, plainX]
  | .glo _ _, x, _, _, h => by cases x <;> simp_all [ckE, plainX]
  | .tup _, x, _, _, h => by cases x <;> simp_all [ckE, plainX]
  | .lst _, x, _, _, h => by cases x <;> simp_all [ckE, plainX]
  | .dic _, x, _, _, h => by cases x <;> simp_all [ckE, plainX]
  | .pro e, x, sc, fnc, h => plainX_of (e := e) (sc := sc) (fnc := fnc) (by simp only [ckE, Bool.and_eq_true] at h; exact h.2)
  | .bop _ _ _, x, _, _, h => by cases x <;> simp_all [ckE, plainX]
  | .neg _, x, _, _, h => by cases x <;> simp_all [ckE, plainX]
  | .nt _, x, _, _, h => by cases x <;> simp_all [ckE, plainX]
  | .cmp _ _ _, x, _, _, h => by cases x <;> simp_all [ckE, plainX]
  | .chain _ _ _ _ _, x, _, _, h => by cases x <;> simp_all [ckE, plainX]
  | .and _ _, x, _, _, h => by cases x <;> simp_all [ckE, plainX]
  | .or _ _, x, _, _, h => by cases x <;> simp_all [ckE, plainX]
  | .ix _ _, x, _, _, h => by cases x <;> simp_all [ckE, plainX]
  | .sl _ _ _, x, _, _, h => by cases x <;> simp_all [ckE, plainX]
  | .call _ _, x, _, _, h => by cases x <;> simp_all [ckE, plainX]
  | .blt _ _, x, _, _, h => by cases x <;> simp_all [ckE, plainX]
  | .mth _ _ _, x, _, _, h => by simp [ckE] at h
  | .att _ _, x, _, _, h => by simp [ckE] at h
  | .met _ _ _ _, x, _, _, h => by simp [ckE] at h
  | .new _ _, x, _, _, h => by simp [ckE] at h
  | .lc _ _ _ _ _, x, _, _, h => by cases x <;> simp_all [ckE, plainX]
theorem noMarks {x : Expr} (h : plainX x = true) (op : CmpOp) : behindInMarks op x = false := by
  cases x <;> first | rfl | (cases h)
theorem ixPlain {x : Expr} (h : plainX x = true) : PlainIx x := by
  intro o i
  cases x <;> first | rfl | (cases h)
theorem starEachs : ∀ {es : Es} {xs : List Expr} {sc : Scope} {fnc : Str → Bool} {env : PySem.Env} {pos : Pos}, ckEs S N sc fnc es xs = true → (backTo pos (starEach xs env)).any (·.1) = false
  | .nil, xs, _, _, env, pos, h => by
    cases xs with
    | nil => rfl
    | cons x r => simp [ckEs] at h
  | .cons e es, xs, _, _, env, pos, h => by
    cases xs with
    | nil => simp [ckEs] at h
    | cons x r =>
      simp only [ckEs, Bool.and_eq_true] at h
      rw [starEach_plain (plainX_of h.1)]
      have ih := starEachs (env := env) (pos := pos) h.2
      cases q : starEach r env with
      | nil => rfl
      | cons a b =>
        rw [q] at ih
        show (backTo pos ((false, eval x env) :: a :: b)).any (·.1) = false
        first
          | exact ih
          | (simpa [backTo] using ih)

/-! ### targets that are names -/
mutual
def gOf (K : PySem.W.Frag) : T → TG
  | .nm i => gName i
  | .tup ts => gTup K (tsLen ts) (gsOf K ts)
  | .ix _ _ => fun _ _ _ _ => False
def gsOf (K : PySem.W.Frag) : Ts → TGs
  | .nil => gNil
  | .cons t ts => gCons (gOf K t) (gsOf K ts)
def tsLen : Ts → Nat
  | .nil => 0
  | .cons _ ts => tsLen ts + 1
end
theorem locB_ok (hx : XOk S K ca fa C N sc fnc X) {y : Str} (h : locB sc fnc y = true) : L2.Loc X.env.scope y ∧ (X.fn y = true ∨ X.env.scope.names.lookup y = some .local) := by
  unfold locB at h
  unfold L2.Loc
  rw [hx.sc]
  split at h
  · exact ⟨.inl (by assumption), .inr (by assumption)⟩
  · exact ⟨.inr (by assumption), .inl (hx.fnc y h)⟩
  · cases h
theorem pgNm (hx : XOk S K ca fa C N sc fnc X) {i : Nat} {x : Expr} (h : ckT S N sc fnc (.nm i) x = true) : PG X x (gName i) := by
  unfold ckT at h
  split at h
  · simp only [Bool.and_eq_true, decide_eq_true_eq] at h
    obtain ⟨l, f⟩ := locB_ok hx h.2
    exact pg_name (by rw [hx.n]; exact hx.nd) (by rw [hx.n]; exact h.1) l f
  · cases h
theorem assignEach_plain {x : Expr} {xs : List Expr} {env : PySem.Env} (h : plainX x = true) : assignEach (x :: xs) env = (false, assign x env) :: assignEach xs env := by
  cases x <;> first | rfl | (cases h)
theorem plainT : ∀ {t : T} {x : Expr}, ckT S N sc fnc t x = true → plainX x = true
  | .nm _, x, h => by cases x <;> simp_all [ckT, plainX]
  | .ix _ _, x, h => by cases x <;> simp_all [ckT, plainX]
  | .tup _, x, h => by cases x <;> simp_all [ckT, plainX]
theorem assignEachs : ∀ {ts : Ts} {xs : List Expr} {env : PySem.Env}, ckTs S N sc fnc ts xs = true → (assignEach xs env).length = tsLen ts ∧ (assignEach xs env).findIdx? (·.1) = none
  | .nil, xs, env, h => by
    cases xs with
    | nil => exact ⟨rfl, rfl⟩
    | cons x r => simp [ckTs] at h
  | .cons t ts, xs, env, h => by
    cases xs with
    | nil => simp [ckTs] at h
    | cons x r =>
      simp only [ckTs, Bool.and_eq_true] at h
      obtain ⟨h1, h2⟩ := assignEachs (env := env) h.2
      rw [assignEach_plain (plainT h.1)]
      refine ⟨by simp [tsLen, h1], ?_⟩
      rw [List.findIdx?_cons, h2]
      rfl
mutual
theorem pgN (hx : XOk S K ca fa C N sc fnc X) {vs : List Nat} : ∀ (t : T) (x : Expr), t.within vs = true → ckT S N sc fnc t x = true → PG X x (gOf X.K t)
  | .nm i, x, _, h => pgNm hx h
  | .ix _ _, _, w, _ => by cases w
  | .tup ts, x, w, h => by
    unfold ckT at h
    split at h
    · obtain ⟨h1, h2⟩ := assignEachs (env := X.env) h
      exact pg_tup hx.calm (pgsN hx ts _ w h) h1 h2
    · cases h
theorem pgsN (hx : XOk S K ca fa C N sc fnc X) {vs : List Nat} : ∀ (ts : Ts) (xs : List Expr), T.within.go vs ts = true → ckTs S N sc fnc ts xs = true → PGs X xs (gsOf X.K ts)
  | .nil, xs, _, h => by
    cases xs with
    | nil => exact pgs_nil
    | cons x r => simp [ckTs] at h
  | .cons t ts, xs, w, h => by
    cases xs with
    | nil => simp [ckTs] at h
    | cons x r =>
      simp only [ckTs, Bool.and_eq_true] at h
      cases t with
      | nm i =>
        simp only [T.within.go, Bool.and_eq_true] at w
        exact pgs_cons (pgN hx (.nm i) x (by simpa [T.within] using w.1) h.1) (pgsN hx ts r w.2 h.2) (by rw [assignEach_plain (plainT h.1)]; rfl)
      | ix o k => cases w
      | tup us => cases w
end
end

/-! ### names that hold something new -/
section
variable {K : PySem.W.Frag} {ca : Nat → Addr} {φ φ' : List Addr} {F F' : Addr → Prop} {H H' : Hp} {st st' : Sto} {σ : L2.St} {env : Env}
theorem EnvOk.set (h : EnvOk K φ F H σ env) {i : Nat} {d : D} {v : V} (r : Rep K φ F H d v) (hi : i < env.length) : EnvOk K φ F H (σ.set i (some v)) (env.set i (some (.val d))) := by
  refine ⟨by rw [List.length_set, List.length_set]; exact h.len, fun j r' e => ?_, fun j k rj rk a e1 e2 o1 o2 s1 s2 => ?_⟩
  · by_cases hj : i = j
    · subst hj
      rw [List.getElem?_set_self hi] at e
      cases e
      exact ⟨v, List.getElem?_set_self (by rw [← h.len]; exact hi), r⟩
    · rw [List.getElem?_set_ne hj] at e
      obtain ⟨v', e1, r1⟩ := h.at_ j r' e
      exact ⟨v', by rw [List.getElem?_set_ne hj]; exact e1, r1⟩
  · have nj : i ≠ j := fun z => by
      subst z
      rw [List.getElem?_set_self hi] at e1
      cases e1
      cases o1
    have nk : i ≠ k := fun z => by
      subst z
      rw [List.getElem?_set_self hi] at e2
      cases e2
      cases o2
    rw [List.getElem?_set_ne nj] at e1 s1
    rw [List.getElem?_set_ne nk] at e2 s2
    exact h.apart j k rj rk a e1 e2 o1 o2 s1 s2
theorem EnvOk.unset (h : EnvOk K φ F H σ env) (i : Nat) : EnvOk K φ F H (σ.set i none) (env.set i none) := by
  refine ⟨by rw [List.length_set, List.length_set]; exact h.len, fun j r' e => ?_, fun j k rj rk a e1 e2 o1 o2 s1 s2 => ?_⟩
  · have hj : i ≠ j := fun z => by
      subst z
      by_cases hi : i < env.length
      · rw [List.getElem?_set_self hi] at e; cases e
      · rw [List.getElem?_eq_none (by rw [List.length_set]; omega)] at e; cases e
    rw [List.getElem?_set_ne hj] at e
    obtain ⟨v', e1, r1⟩ := h.at_ j r' e
    exact ⟨v', by rw [List.getElem?_set_ne hj]; exact e1, r1⟩
  · have nj : i ≠ j := fun z => by
      subst z
      by_cases hi : i < env.length
      · rw [List.getElem?_set_self hi] at e1; cases e1
      · rw [List.getElem?_eq_none (by rw [List.length_set]; omega)] at e1; cases e1
    have nk : i ≠ k := fun z => by
      subst z
      by_cases hi : i < env.length
      · rw [List.getElem?_set_self hi] at e2; cases e2
      · rw [List.getElem?_eq_none (by rw [List.length_set]; omega)] at e2; cases e2
    rw [List.getElem?_set_ne nj] at e1 s1
    rw [List.getElem?_set_ne nk] at e2 s2
    exact h.apart j k rj rk a e1 e2 o1 o2 s1 s2
theorem EnvOk.wipe (h : EnvOk K φ F H σ env) : ∀ vs : List Nat, EnvOk K φ F H (L2.wipe σ vs) (wipeE env vs)
  | [] => h
  | v :: vs => (EnvOk.wipe h vs).unset v
theorem wipe_at {σ : L2.St} : ∀ {vs : List Nat} {i : Nat}, (L2.wipe σ vs)[i]? = if i ∈ vs then (if i < σ.length then some none else none) else σ[i]?
  | [], i => by simp [L2.wipe]
  | v :: vs, i => by
    have ih := wipe_at (σ := σ) (vs := vs) (i := i)
    have hl := wipe_length σ vs
    unfold L2.wipe
    by_cases h : v = i
    · subst h
      by_cases hi : v < σ.length
      · rw [List.getElem?_set_self (by omega)]
        simp [hi]
      · rw [List.getElem?_eq_none (by rw [List.length_set]; omega)]
        simp [hi]
    · rw [List.getElem?_set_ne h, ih]
      have : i ∈ v :: vs ↔ i ∈ vs := by simp [Ne.symm h]
      simp only [this]
theorem wipe_ext {σ τ : L2.St} {vs : List Nat} (hl : σ.length = τ.length) (h : ∀ i, i ∉ vs → σ[i]? = τ[i]?) : L2.wipe σ vs = L2.wipe τ vs := by
  refine List.ext_getElem? fun i => ?_
  rw [wipe_at, wipe_at, hl]
  by_cases hi : i ∈ vs
  · rw [if_pos hi, if_pos hi]
  · rw [if_neg hi, if_neg hi]
    exact h i hi
/-- what a target of names does -/
structure Named (K : PySem.W.Frag) (φ : List Addr) (F : Addr → Prop) (H : Hp) (vs : List Nat) (σ σ' : L2.St) (env' : Env) : Prop where
  ok : EnvOk K φ F H σ' env'
  len : σ'.length = σ.length
  out : ∀ i, i ∉ vs → σ'[i]? = σ[i]?
theorem binds_len {C : Calls} : ∀ (ts : Ts) (ds : List D) {env : Env} {st : Sto} {p : Env × Sto}, binds C ts ds env st = some p → ds.length = tsLen ts
  | .nil, ds, env, st, p, e => by
    cases ds with
    | nil => rfl
    | cons d ds => simp [binds] at e
  | .cons t ts, ds, env, st, p, e => by
    cases ds with
    | nil => simp [binds] at e
    | cons d ds =>
      simp only [binds, Option.bind_eq_some_iff] at e
      obtain ⟨q, _, e2⟩ := e
      simp [tsLen, binds_len ts ds e2]
mutual
theorem gOf_ok {C : Calls} {vs : List Nat} {Q : L2.St → Hp → Prop} : ∀ (t : T) (d : D) (v : V) (σ : L2.St) (env env' : Env) (st st' : Sto), t.within vs = true → EnvOk K φ F H σ env → Rep K φ F H d v → bind C t d env st = some (env', st') →
    (st' = st → ∀ σ', Named K φ F H vs σ σ' env' → Q σ' H) → gOf K t v σ H Q
  | .nm i, d, v, σ, env, env', st, st', w, he, r, e, q => by
    simp only [bind] at e
    split at e
    · cases e
      refine q rfl _ ⟨he.set r (by assumption), by simp, fun j hj => ?_⟩
      have hi : i ∈ vs := by simpa [T.within] using w
      rw [List.getElem?_set_ne (fun (z : i = j) => hj (z ▸ hi))]
    · cases e
  | .ix _ _, _, _, _, _, _, _, _, w, _, _, _, _ => by cases w
  | .tup ts, d, v, σ, env, env', st, st', w, he, r, e, q => by
    simp only [bind] at e
    split at e
    · obtain ⟨a, us, rfl, q1, r1⟩ := r
      obtain ⟨h1, h2⟩ := gsOf_ok ts _ us σ env env' st st' w he r1 e q
      exact ⟨a, us, rfl, q1, h1, h2⟩
    · cases e
theorem gsOf_ok {C : Calls} {vs : List Nat} {Q : L2.St → Hp → Prop} : ∀ (ts : Ts) (ds : List D) (us : List V) (σ : L2.St) (env env' : Env) (st st' : Sto), T.within.go vs ts = true → EnvOk K φ F H σ env → Reps K φ F H ds us → binds C ts ds env st = some (env', st') →
    (st' = st → ∀ σ', Named K φ F H vs σ σ' env' → Q σ' H) → us.length = tsLen ts ∧ gsOf K ts us σ H Q
  | .nil, ds, us, σ, env, env', st, st', w, he, r, e, q => by
    cases ds with
    | nil =>
      simp only [binds, Option.some.injEq, Prod.mk.injEq] at e
      obtain ⟨rfl, rfl⟩ := e
      cases (show us = [] from r)
      exact ⟨rfl, rfl, q rfl σ ⟨he, rfl, fun _ _ => rfl⟩⟩
    | cons d ds => simp [binds] at e
  | .cons t ts, ds, us, σ, env, env', st, st', w, he, r, e, q => by
    cases ds with
    | nil => simp [binds] at e
    | cons d ds =>
      obtain ⟨v, us, rfl, r1, r2⟩ := r
      simp only [binds, Option.bind_eq_some_iff] at e
      obtain ⟨⟨env1, st1⟩, e1, e2⟩ := e
      have wt : t.within vs = true := by
        cases t with
        | nm i => simp only [T.within.go, Bool.and_eq_true] at w; simpa [T.within] using w.1
        | ix o k => cases w
        | tup us => cases w
      have wr : T.within.go vs ts = true := by
        cases t with
        | nm i => simp only [T.within.go, Bool.and_eq_true] at w; exact w.2
        | ix o k => cases w
        | tup us => cases w
      have len : us.length = tsLen ts := r2.length.trans (binds_len ts ds e2)
      refine ⟨by simp [tsLen, len], v, us, rfl, gOf_ok t d v σ env env1 st st1 wt he r1 e1 fun es1 σ1 n1 => ?_⟩
      refine (gsOf_ok ts ds us σ1 env1 env' st1 st' wr n1.ok r2 e2 fun es2 σ2 n2 => ?_).2
      exact q (es2.trans es1) σ2 ⟨n2.ok, n2.len.trans n1.len, fun i hi => (n2.out i hi).trans (n1.out i hi)⟩
end
end
end Iv

set_option Elab.async false
set_option linter.all false
set_option maxRecDepth 100000
set_option maxHeartbeats 4000000
/-! Iv, part B5: expressions do what the small language says. -/
namespace Iv
open PySem PySem.Spec PyProof.Rows L2

section
variable {S : Sta} {K : PySem.W.Frag} {ca fa : Nat → Addr} {C : Calls} {N : List Str} {sc : Scope} {fnc : Str → Bool} {X : Cx}
variable {φ φ' : List Addr} {F F' : Addr → Prop} {H H' : Hp} {st st' : Sto} {σ : L2.St} {env : Env}
theorem Want.later {r : Rv} {Q : VK} (s : Step φ F H φ' F' H') (k : Want K ca φ F H r st Q) : Want K ca φ' F' H' r st Q :=
  fun φ2 F2 H2 v s2 o h f => k φ2 F2 H2 v (s.trans s2) o h fun w a e => s.none (f w a e)
theorem After.later {P : List Addr → (Addr → Prop) → Hp → Prop} (s : Step φ F H φ' F' H') (k : After K ca φ F H st P) : After K ca φ' F' H' st P :=
  fun φ2 F2 H2 s2 o => k φ2 F2 H2 (s.trans s2) o
theorem After.now {P : List Addr → (Addr → Prop) → Hp → Prop} (o : StOk K ca φ F H st) (k : After K ca φ F H st P) : P φ F H := k φ F H Step.refl o
theorem PE_never {e : Expr} {t : TE} (h : ∀ σ H Q, ¬ t σ H Q) : PE X e t := ⟨fun _ _ σ H Q _ q => (h σ H Q q).elim⟩
theorem pk_of {e : E} {env : Env} {st : Sto} {p : Rv × Sto} (h : evE C e env st = some p) : pk e env st (evE C e env st) = some (p.1.d, p.2) := by
  unfold pk
  split
  · simp only [evE] at h
    split at h
    · rename_i i d e1
      cases h
      rw [e1]
    · cases h
  · rw [h]
    rfl
/-- an expression's value, given up: what is wanted of it as a value -/
theorem tE_d {e : E} {Q : VK} (so : StOk K ca φ F H st) (he : EnvOk K φ F H σ env) {p : Rv × Sto} (h : evE C e env st = some p)
    (k : After K ca φ F H p.2 fun φ' F' H' => ∀ v, Rep K φ' F' H' p.1.d v → Q v H') : tE K ca C e σ H Q :=
  ⟨φ, F, env, st, p.1, p.2, so, he, h, Want.give (fun φ' F' H' v s o r => k φ' F' H' s o v r) so.base⟩
/-- .. for the moment -/
theorem pe_pk (hx : XOk S K ca fa C N sc fnc X) {e : E} {x : Expr} (h : ckE S N sc fnc e x = true) (hp : PE X x (tE K ca C e)) : PE X x (tP K ca C e) := by
  by_cases hv : ∃ i, e = .var i
  · obtain ⟨i, rfl⟩ := hv
    have hn : ∃ y pos, x = .Name y pos ∧ nmB N sc i y = true := by
      cases x <;> simp_all [ckE]
    obtain ⟨y, pos, rfl, hn⟩ := hn
    refine PE_w (nmB_ok hx hn) fun σ H Q ⟨φ, F, env, st, d, st', so, he, ev, k⟩ => ?_
    unfold pk at ev
    dsimp only at ev
    split at ev
    · rename_i r e1
      cases ev
      obtain ⟨v, e2, rv⟩ := he.at_ i r e1
      refine ⟨v, e2, k.now so v ?_⟩
      cases ho : r.own with
      | true => exact .inr ⟨r, rfl, ho, rv⟩
      | false =>
        cases r with
        | val d => exact .inl rv
        | lst xs => cases ho
        | dct t ks => cases ho
    · cases ev
  · refine PE_w hp fun σ H Q ⟨φ, F, env, st, d, st', so, he, ev, k⟩ => ?_
    have ev2 : (evE C e env st).map (fun p => (p.1.d, p.2)) = some (d, st') := by
      unfold pk at ev
      split at ev
      · exact absurd ⟨_, rfl⟩ hv
      · exact ev
    simp only [Option.map_eq_some_iff, Prod.mk.injEq] at ev2
    obtain ⟨p, e1, rfl, rfl⟩ := ev2
    exact tE_d so he e1 fun φ' F' H' s o v r => k φ' F' H' s o v (.inl r)
/-- one operand: what is known behind it -/
theorem tP_i {e : E} {Q : VK} (so : StOk K ca φ F H st) (he : EnvOk K φ F H σ env) {p : D × Sto} (h : pk e env st (evE C e env st) = some p)
    (k : After K ca φ F H p.2 fun φ' F' H' => ∀ v, PRep K φ' F' H' p.1 v → Q v H') : tP K ca C e σ H Q := ⟨φ, F, env, st, p.1, p.2, so, he, h, k⟩
theorem XOk.blk (hx : XOk S K ca fa C N sc fnc X) (s : Shared) (H : Hp) (scope : Scope) (cl : List (Str × Addr)) (c : Addr) (fp : List Addr) :
    XOk S K ca fa C N (relS scope sc) (fun x => scope.names.lookup x == some .cell) (X.blk s H scope (compEnvC scope cl c X.env) fp) :=
  ⟨hx.k, hx.n, by rw [← hx.sc]; rfl, hx.nd, hx.calm, fun _ h => h, hx.units, hx.grd, hx.fct, fun Y hY => hx.calls Y hY⟩
theorem lkName {y : Str} (h : noDbg y = true) : (y == ("__debug__" : Str)) = false := by
  unfold noDbg at h
  simp only [Bool.and_eq_true, Bool.not_eq_true'] at h
  exact h.1
/-- a call of a def of the text -/
theorem pe_callP {f : Addr} {sp : Sp} {x : Str} {p pos : Pos} {e : Expr} {es : List Expr} {t : TA} (F : CallP X f sp) (hg : Gl X x) (hm : X.mg x = some (.ref f)) (hk : PySem.W.keepIn X.K (.ref f) = true) (hdb : (x == ("__debug__" : Str)) = false)
    (ha : PA X (e :: es) t) (hp : plainX e = true) (hpl : (backTo pos (starEach es X.env)).any (·.1) = false) : PE X (.Call (.Name x p) (e :: es) [] pos) (fun σ H Q => t σ H fun vs H1 => sp vs H1 Q (fun _ _ _ => False)) := by
  refine ⟨fun pins s σ H Q I h => ?_⟩
  refine wpAny_Call_Name_kw (ld_glob I hg hm ?_ hdb)
  exact PySem.W.callWith_K (h₀ := X.base) I.ok.mod.kin hk (thn (ha.run pos pins s σ H _ I h) fun us s1 ⟨vs, H1, I1, r, q⟩ => ⟨I1.kIn, F pins s1 σ H1 vs us Q I1 r q⟩) (starEach_plain hp) hpl
theorem pe_callP0 {f : Addr} {sp : Sp} {x : Str} {p pos : Pos} (F : CallP X f sp) (hg : Gl X x) (hm : X.mg x = some (.ref f)) (hk : PySem.W.keepIn X.K (.ref f) = true) (hdb : (x == ("__debug__" : Str)) = false) :
    PE X (.Call (.Name x p) [] [] pos) (fun σ H Q => sp [] H Q (fun _ _ _ => False)) := by
  refine ⟨fun pins s σ H Q I h => ?_⟩
  refine wpAny_Call_Name_kw (ld_glob I hg hm ?_ hdb)
  exact PySem.W.callWith_K0 I.kIn hk (F pins s σ H [] [] Q I .nil h)
theorem glB_ok (hx : XOk S K ca fa C N sc fnc X) {y : Str} (h : glB sc y = true) : Gl X y := by
  unfold glB at h
  simp only [decide_eq_true_eq] at h
  show X.env.scope.names.lookup y = _
  rw [hx.sc]
  exact h

/-! ### built-in functions by values -/
theorem PReps.length : ∀ {ds : List D} {vs : List V}, PReps K φ F H ds vs → vs.length = ds.length
  | [], _, h => by cases (show _ = [] from h); rfl
  | d :: ds, _, h => by
    obtain ⟨v, r, e, _, t⟩ := h
    subst e
    simp [PReps.length t]
theorem PReps.one {d : D} {vs : List V} (h : PReps K φ F H [d] vs) : ∃ v, vs = [v] ∧ PRep K φ F H d v := by
  obtain ⟨v, r, e, q, t⟩ := h
  cases (show r = [] from t)
  exact ⟨v, e, q⟩
def bltT (K : PySem.W.Frag) (ca : Nat → Addr) (b : Blt) : List V → Hp → VK → Prop := fun vs H Q => ∃ φ F st ds r, StOk K ca φ F H st ∧ PReps K φ F H ds vs ∧ bltR st b ds = some r ∧ Want K ca φ F H r st Q
theorem blt_len (ca : Nat → Addr) : CallR X (.builtin "len") (bltT X.K ca .len) := by
  intro pins s σ H xs us Q I r ⟨φ, F, st, ds, rv, so, pr, e, k⟩
  unfold bltR at e
  split at e <;> (try contradiction)
  · obtain ⟨v, rfl, q⟩ := pr.one
    split at e
    · cases e; cases q.str
      exact call_len_str pins s σ H _ us Q I r ⟨_, rfl, by rw [← sz16]; assumption, k.val so rfl⟩
    · cases e
  · obtain ⟨v, rfl, q⟩ := pr.one
    simp only [Option.map_eq_some_iff] at e
    obtain ⟨ys, e1, rfl⟩ := e
    obtain ⟨a, vs, rfl, q1, r1⟩ := items_ok so q e1
    refine call_len_seq pins s σ H _ us Q I r ⟨a, vs, rfl, q1, ?_⟩
    rw [r1.length]
    exact k.val so rfl
theorem blt_int (ca : Nat → Addr) : CallR X (.type "int") (bltT X.K ca .int) := by
  intro pins s σ H xs us Q I r ⟨φ, F, st, ds, rv, so, pr, e, k⟩
  unfold bltR at e
  split at e <;> (try contradiction)
  · obtain ⟨v, rfl, q⟩ := pr.one
    cases e; cases q.bl
    exact call_int1 pins s σ H _ us Q I r (.inr ⟨_, rfl, k.val so rfl⟩)
  · obtain ⟨v, rfl, q⟩ := pr.one
    cases e; cases q.int
    exact call_int1 pins s σ H _ us Q I r (.inl ⟨_, rfl, k.val so rfl⟩)
theorem blt_list (ca : Nat → Addr) : CallR X (.type "list") (bltT X.K ca .list) := by
  intro pins s σ H xs us Q I r ⟨φ, F, st, ds, rv, so, pr, e, k⟩
  unfold bltR at e
  split at e <;> (try contradiction)
  · obtain ⟨v, rfl, q⟩ := pr.one
    simp only [Option.map_eq_some_iff] at e
    obtain ⟨ys, e1, rfl⟩ := e
    obtain ⟨a, vs, rfl, q1, r1⟩ := items_ok so q e1
    exact call_list_of pins s σ H _ us Q I r ⟨a, vs, rfl, q1, k.lst so r1⟩
theorem blt_tuple (ca : Nat → Addr) : CallR X (.type "tuple") (bltT X.K ca .tuple) := by
  intro pins s σ H xs us Q I r ⟨φ, F, st, ds, rv, so, pr, e, k⟩
  unfold bltR at e
  split at e <;> (try contradiction)
  · obtain ⟨v, rfl, q⟩ := pr.one
    simp only [Option.map_eq_some_iff] at e
    obtain ⟨ys, e1, rfl⟩ := e
    obtain ⟨a, vs, rfl, q1, r1⟩ := items_ok so q e1
    rcases q1 with q1 | q1
    · exact call_tuple_of pins s σ H _ us Q I r ⟨a, vs, rfl, .inl ⟨q1, k.tup so r1⟩⟩
    · exact call_tuple_of pins s σ H _ us Q I r ⟨a, vs, rfl, .inr ⟨q1, k.val so ⟨a, vs, rfl, q1, r1⟩⟩⟩
theorem reps_zip : ∀ {ds : List D} {vs : List V}, Reps K φ F H ds vs → ∀ p ∈ ds.zip vs, Rep K φ F H p.1 p.2
  | [], vs, h, p, hp => by simp at hp
  | d :: ds, vs, h, p, hp => by
    obtain ⟨v, r, e, h1, h2⟩ := h
    subst e
    rw [List.zip_cons_cons] at hp
    rcases List.mem_cons.mp hp with rfl | hp
    · exact h1
    · exact reps_zip h2 p hp
theorem reps_unzip : ∀ {ps : List (D × V)}, (∀ p ∈ ps, Rep K φ F H p.1 p.2) → Reps K φ F H (ps.map (·.1)) (ps.map (·.2))
  | [], _ => rfl
  | p :: ps, h => ⟨p.2, ps.map (·.2), rfl, h p List.mem_cons_self, reps_unzip fun q hq => h q (List.mem_cons_of_mem _ hq)⟩
theorem pys_all : ∀ {xs : List D} {ds : List PyData}, D.pys xs = some ds → ds = xs.map D.pyD ∧ ∀ x ∈ xs, x.py = some x.pyD
  | [], _, h => by
    simp only [D.pys, Option.some.injEq] at h
    subst h
    exact ⟨rfl, fun x hx => by simp at hx⟩
  | x :: xs, _, h => by
    simp only [D.pys, Option.bind_eq_some_iff, Option.map_eq_some_iff] at h
    obtain ⟨d, e1, l, e2, rfl⟩ := h
    obtain ⟨h1, h2⟩ := pys_all e2
    have e3 : x.pyD = d := by unfold D.pyD; rw [e1]; rfl
    refine ⟨by rw [List.map_cons, e3, h1], fun y hy => ?_⟩
    rcases List.mem_cons.mp hy with rfl | hy
    · rw [e3, e1]
    · exact h2 y hy
theorem vals_each {R : V → Prop} : ∀ {zs : List (D × V)} {us : List Value}, Vals (zs.map (·.2)) us → PySem.W.EachIs (fun u (z : D × V) => RelV z.2 u) us zs
  | [], us, h => by
    cases h
    exact .nil
  | z :: zs, us, h => by
    cases h with
    | cons h1 h2 => exact .cons h1 (vals_each (R := R) h2)
theorem each_vals : ∀ {zs : List (D × V)} {us : List Value}, PySem.W.EachIs (fun u (z : D × V) => RelV z.2 u) us zs → Vals (zs.map (·.2)) us
  | _, _, .nil => .nil
  | _, _, .cons h t => .cons h (each_vals t)
theorem each_with {R S : Value → (D × V) → Prop} : ∀ {zs : List (D × V)} {us : List Value}, PySem.W.EachIs R us zs → (∀ z ∈ zs, ∀ u, R u z → S u z) → PySem.W.EachIs S us zs
  | _, _, .nil, _ => .nil
  | _, _, .cons h t, k => .cons (k _ List.mem_cons_self _ h) (each_with t fun z hz => k z (List.mem_cons_of_mem _ hz))
theorem blt_sorted (ca : Nat → Addr) (hu : X.A.units + 200 < cLine) : CallR X (.builtin "sorted") (bltT X.K ca .sorted) := by
  intro pins s σ H xs us Q I r ⟨φ, F, st, ds, rv, so, pr, e, k⟩
  unfold bltR at e
  split at e <;> (try contradiction)
  rename_i d _ _
  obtain ⟨v, rfl, q⟩ := pr.one
  split at e <;> (try contradiction)
  rename_i hnt
  simp only [Option.bind_eq_some_iff, Option.map_eq_some_iff] at e
  obtain ⟨ys, e1, zs, e2, rfl⟩ := e
  obtain ⟨a, vs, rfl, q1, r1⟩ := items_list so q e1 (fun ys z => by subst z; cases hnt)
  unfold sortD at e2
  simp only [Option.bind_eq_some_iff] at e2
  obtain ⟨ps, e3, e4⟩ := e2
  split at e4 <;> (try contradiction)
  rename_i hc
  simp only [Bool.and_eq_true, decide_eq_true_eq, Bool.or_eq_true] at hc
  obtain ⟨hlen, hal, hk, hd⟩ := hc
  cases e4
  obtain ⟨rfl, hpy⟩ := pys_all e3
  obtain ⟨its, rvs, hl, hz⟩ := I.list q1
  rw [Vals.ref1 r]
  have hvl := r1.length
  have m1 : (ys.zip vs).map (·.1) = ys := List.map_fst_zip (by omega)
  have m2 : (ys.zip vs).map (·.2) = vs := List.map_snd_zip (by omega)
  have e0 : PySem.W.EachIs (fun u (z : D × V) => RelV z.2 u) its (ys.zip vs) := vals_each (R := fun _ => True) (by rw [m2]; exact rvs)
  have zr := reps_zip r1
  have hmem : ∀ z ∈ ys.zip vs, z.1 ∈ ys := fun z hz => by
    have := List.mem_map_of_mem (f := (·.1)) hz
    rwa [m1] at this
  have er : PySem.W.EachIs (fun u (z : D × V) => ∃ as, Reads s.heap u z.1.pyD as) its (ys.zip vs) := each_with e0 fun z hz u ru => Dp.reads I _ _ _ (py_ok z.1 z.2 _ (zr z hz) (hpy _ (hmem z hz))) ru
  have hds : (ys.zip vs).map (fun z => z.1.pyD) = ys.map D.pyD := by
    rw [← m1, List.map_map]
    simp only [m1]
    rfl
  refine PySem.W.sorted_data (bs := ys.zip vs) (enc := fun z => z.1.pyD) (R := fun u (z : D × V) => RelV z.2 u) hl.isList e0 er ?_ ?_ ?_ (fun b hb => ?_) fun out ho eo => ?_
  · rw [hds]
    intro d hd d' hd'
    exact List.all_eq_true.mp (List.all_eq_true.mp hal d hd) d' hd'
  · rw [hds]
    rcases hk with hk | hk
    · refine .inl fun d hd => ?_
      have := List.all_eq_true.mp hk d hd
      unfold tupB at this
      split at this
      · exact ⟨_, _, rfl⟩
      · cases this
    · refine .inr fun d hd => ?_
      have := List.all_eq_true.mp hk d hd
      unfold othB at this
      split at this
      · cases this
      · cases this
      · rename_i h1 h2
        exact ⟨h1, h2⟩
  · rw [sizeLine_eq, List.length_zip]
    omega
  · have := List.all_eq_true.mp hd _ (List.mem_map_of_mem (f := D.pyD) (hmem b hb))
    simp only [decide_eq_true_eq] at this
    show X.A.units + 2 + b.1.pyD.depth < cLine
    omega
  · have rz : ∀ p ∈ (ys.zip vs).mergeSort (PySem.W.dataLe false fun z => z.1.pyD), Rep X.K φ F H p.1 p.2 := fun p hp => zr p (List.mem_mergeSort.mp hp)
    have r2 := reps_unzip rz
    have m3 : ((ys.zip vs).mergeSort (PySem.W.dataLe false fun z => z.1.pyD)).map (·.1) = ys.mergeSort (PySem.W.dataLe false D.pyD) := by
      refine (List.map_mergeSort (r := PySem.W.dataLe false fun z : D × V => z.1.pyD) (s := PySem.W.dataLe false D.pyD) (f := fun x : D × V => x.1) (fun a _ b _ => rfl)).trans ?_
      rw [m1]
    rw [m3] at r2
    obtain ⟨ep, he'⟩ := PyProof.Rows.sortedAll_at s.heap its out.toArray
    have hln : (((ys.zip vs).mergeSort (PySem.W.dataLe false fun z => z.1.pyD)).map (·.2)).length ≤ sizeLine := by
      rw [List.length_map, List.length_mergeSort, List.length_zip, sizeLine_eq]
      omega
    exact ⟨.ref _, upd H (s.heap.objs.size + 1) (.lst (((ys.zip vs).mergeSort (PySem.W.dataLe false fun z => z.1.pyD)).map (·.2))), I.laid (t' := s.toks) (fun _ _ => PyProof.Rows.sortedAll_old) (Nat.le_succ _) ⟨hln, out, ep, each_vals eo, he'⟩, rfl, k.lst so r2 _ (I.hok.fresh (Nat.le_succ _))⟩
theorem blt_str (ca : Nat → Addr) (hu : X.A.units + 200 < cLine) (hg : X.A.guards = some []) : CallR X (.type "str") (bltT X.K ca .str) := by
  intro pins s σ H xs us Q I r ⟨φ, F, st, ds, rv, so, pr, e, k⟩
  unfold bltR at e
  split at e <;> (try contradiction)
  obtain ⟨v, rfl, q⟩ := pr.one
  simp only [Option.map_eq_some_iff] at e
  obtain ⟨d, e, rfl⟩ := e
  unfold strD at e
  split at e
  · cases e; cases q.str
    exact SkE.call_str_str pins s σ H _ us Q I r ⟨_, rfl, k.val so rfl⟩
  · split at e
    · cases e; cases q.int
      exact call_str_int pins s σ H _ us Q I r ⟨_, rfl, by assumption, k.val so rfl⟩
    · cases e
  · rename_i ys
    simp only [Option.bind_eq_some_iff] at e
    obtain ⟨ps, e1, e2⟩ := e
    split at e2
    · rename_i hc
      cases e2
      simp only [Bool.and_eq_true, decide_eq_true_eq, Bool.not_eq_true'] at hc
      obtain ⟨h1, h2, h3, h4⟩ := hc
      have dp : Dp X.K H v (.tuple ps) := q.py (by simp only [D.py, e1, Option.map_some])
      obtain ⟨a, vs, rfl, _⟩ := q.tup
      rw [Vals.ref1 r]
      obtain ⟨as, rd⟩ := Dp.reads I _ _ _ dp (show RelV (.ref a) (.ref a) from rfl)
      refine str_of_reads rd h1 (PyData.noDict_hsm h2) hg (by omega) (fun _ _ e => e) (fun h' u tk hk => ?_) (by rw [← sz16]; exact h4)
      exact ⟨.str _, H, I.kept (t' := tk) hk, ⟨u, rfl⟩, k.val so rfl⟩
    · cases e2
  · cases e
/-- an index by values -/
def ixT (K : PySem.W.Frag) (ca : Nat → Addr) : R2 := fun x y H Q => ∃ φ F st a b d, StOk K ca φ F H st ∧ PRep K φ F H a x ∧ PRep K φ F H b y ∧ ixR st a b = some d ∧ Want K ca φ F H (.val d) st Q
theorem atI_rep {xs : List D} {vs : List V} {i : Int} {d : D} (r : Reps K φ F H xs vs) (e : atI xs i = some d) : ∃ v, atI vs i = some v ∧ Rep K φ F H d v := by
  unfold atI at e ⊢
  rw [r.length]
  simp only [Option.bind_eq_some_iff] at e
  obtain ⟨j, e1, e2⟩ := e
  obtain ⟨v, h1, h2⟩ := r.get e2
  exact ⟨v, by rw [e1]; exact h1, h2⟩
theorem ix_ok (ca : Nat → Addr) : IxR X (ixT X.K ca) := by
  intro value slice pins s σ H x y v u Q I rx ry ⟨φ, F, st, a, b, d, so, ha, hb, e, k⟩ hs
  unfold ixR at e
  split at e
  · cases hb.int
    split at e
    · split at e
      · rename_i z hl
        cases ha.str
        simp only [Option.map_eq_some_iff] at e
        obtain ⟨c, e1, rfl⟩ := e
        exact ix_str value slice pins s σ H _ _ v u Q I rx ry ⟨_, _, c, rfl, rfl, by rw [← sz16]; exact hl, e1, k.val so rfl⟩ hs
      · cases e
    · simp only [Option.bind_eq_some_iff] at e
      obtain ⟨xs, e1, e2⟩ := e
      obtain ⟨p, vs, rfl, q, r⟩ := items_ok so ha e1
      obtain ⟨w, e3, r3⟩ := atI_rep r e2
      rcases q with q | q
      · exact ix_list value slice pins s σ H _ _ v u Q I rx ry ⟨p, vs, _, w, rfl, rfl, q, e3, k.val so r3⟩ hs
      · exact ix_tup value slice pins s σ H _ _ v u Q I rx ry ⟨p, vs, _, w, rfl, rfl, q, e3, k.val so r3⟩ hs
  · cases e
/-- a slice by values -/
def slT (K : PySem.W.Frag) (ca : Nat → Addr) : V → Option Int → Option Int → Hp → VK → Prop := fun x lo hi H Q => ∃ φ F st a r, StOk K ca φ F H st ∧ PRep K φ F H a x ∧ slR st a lo hi = some r ∧ Want K ca φ F H r st Q
theorem cut_rep {xs : List D} {vs : List V} {lo hi : Option Int} (r : Reps K φ F H xs vs) : Reps K φ F H (cutD xs lo hi) (cutV vs lo hi) := by
  unfold cutD cutV
  rw [r.length]
  exact (r.drop _).take _
theorem sl_ok (ca : Nat → Addr) : SlR X (slT X.K ca) := by
  intro pins s σ H x v vl vu lo hi sl Q I rx hs pl pu ⟨φ, F, st, a, r, so, ha, e, k⟩
  unfold slR at e
  split at e
  · cases e
    obtain ⟨p, vs, rfl, q, r⟩ := ha.tup
    refine sl_tupA pins s σ H _ v vl vu lo hi sl Q I rx hs pl pu ⟨p, vs, rfl, q, fun w => ?_, fun _ => k.tup so (cut_rep r)⟩
    have : cutV vs lo hi = vs := by
      unfold cutV
      rw [w.1, w.2]
      simp
    have r2 := cut_rep (lo := lo) (hi := hi) r
    rw [this] at r2
    exact k.val so ⟨p, vs, rfl, q, r2⟩
  · cases e
  · rename_i nt ns
    simp only [Option.map_eq_some_iff] at e
    obtain ⟨xs, e1, rfl⟩ := e
    obtain ⟨p, vs, rfl, q, r⟩ := items_list so ha e1 (fun ys z => nt ys z)
    exact sl_list pins s σ H _ v vl vu lo hi sl Q I rx hs pl pu ⟨p, vs, rfl, q, k.lst so (cut_rep r)⟩
end
end Iv

set_option Elab.async false
set_option linter.all false
set_option maxRecDepth 100000
set_option maxHeartbeats 4000000
/-! Iv, part B6: loops and comprehensions; a thing of one's own that changes. -/
namespace Iv
open PySem PySem.Spec PyProof.Rows L2

section
variable {S : Sta} {K : PySem.W.Frag} {ca fa : Nat → Addr} {C : Calls} {N : List Str} {sc : Scope} {fnc : Str → Bool} {X : Cx}
variable {φ φ' : List Addr} {F F' : Addr → Prop} {H H' : Hp} {st st' : Sto} {σ : L2.St} {env : Env}
/-! ### a list of one's own changes: nothing else does -/
/-- H and H' tell apart at a alone, where a list or dict of one's own stands -/
structure Off (φ : List Addr) (F : Addr → Prop) (a : Addr) (H H' : Hp) : Prop where
  same : ∀ b, b ≠ a → H' b = H b
  was : ∃ u, H a = some u ∧ (∀ o z, u ≠ .frz o z) ∧ ∀ xs, u ≠ .tup xs
  is_ : ∃ u, H' a = some u
  nf : ¬ F a
  np : a ∉ φ
theorem Off.frz (f : Off φ F a H H') {b : Addr} {o : Obj} {u : HO} (h : H b = some (.frz o u)) : H' b = some (.frz o u) := by
  rw [f.same b (fun z => by subst z; obtain ⟨w, e, n, _⟩ := f.was; rw [h] at e; cases e; exact n _ _ rfl)]
  exact h
theorem Off.tup (f : Off φ F a H H') {b : Addr} {xs : List V} (h : H b = some (.tup xs)) : H' b = some (.tup xs) := by
  rw [f.same b (fun z => by subst z; obtain ⟨w, e, _, n⟩ := f.was; rw [h] at e; cases e; exact n _ rfl)]
  exact h
theorem Off.sqT (f : Off φ F a H H') {b : Addr} {vs : List V} (h : SqT K H b vs) : SqT K H' b vs := by
  rcases h with (h | ⟨o, h⟩) | h
  · exact .inl (.inl (f.tup h))
  · exact .inl (.inr ⟨o, f.frz h⟩)
  · exact .inr h
theorem Off.ofF (f : Off φ F a H H') {b : Addr} (h : F b) : H' b = H b := f.same b fun z => by subst z; exact f.nf h
theorem Off.rd (f : Off φ F a H H') {b : Addr} {u : HO} (hf : F b) (h : Rd H b u) : Rd H' b u := by
  rcases h with h | ⟨o, h⟩
  · exact .inl ((f.ofF hf).trans h)
  · exact .inr ⟨o, f.frz h⟩
mutual
theorem Rep.off (f : Off φ F a H H') : ∀ (d : D) (v : V), Rep K φ F H d v → Rep K φ F H' d v
  | .non, _, h => h
  | .bl _, _, h => h
  | .int _, _, h => h
  | .str _, _, h => h
  | .tup ds, _, h => by
    obtain ⟨a, vs, e, q, r⟩ := h
    exact ⟨a, vs, e, f.sqT q, Reps.off f ds vs r⟩
  | .lst ds, _, h => by
    obtain ⟨b, vs, e, q, g, r⟩ := h
    exact ⟨b, vs, e, (f.ofF g).trans q, g, Reps.off f ds vs r⟩
  | .scr ds, _, h => by
    obtain ⟨a, vs, e, q, r⟩ := h
    exact ⟨a, vs, e, fun H2 h2 => q H2 fun o u z => h2 o u (f.frz z), Reps.off f ds vs r⟩
  | .dct false ds, _, h => by
    obtain ⟨a, vs, e, q, g, r⟩ := h
    exact ⟨a, vs, e, f.rd g q, g, RepK.off f ds vs r⟩
  | .dct true ds, _, h => by
    obtain ⟨a, vs, e, q, g, r⟩ := h
    exact ⟨a, vs, e, f.rd g q, g, RepT.off f ds vs r⟩
  | .ref n, _, h => h
theorem Reps.off (f : Off φ F a H H') : ∀ (ds : List D) (vs : List V), Reps K φ F H ds vs → Reps K φ F H' ds vs
  | [], _, h => h
  | d :: ds, _, h => by
    obtain ⟨v, r, e, q, t⟩ := h
    exact ⟨v, r, e, Rep.off f d v q, Reps.off f ds r t⟩
theorem RepK.off (f : Off φ F a H H') : ∀ (ds : List (D × D)) (vs : List (Key × V)), RepK K φ F H ds vs → RepK K φ F H' ds vs
  | [], _, h => h
  | (_, d) :: ds, _, h => by
    obtain ⟨c, v, r, e, k, q, t⟩ := h
    exact ⟨c, v, r, e, k, Rep.off f d v q, RepK.off f ds r t⟩
theorem RepT.off (f : Off φ F a H H') : ∀ (ds : List (D × D)) (vs : List (List Key × V)), RepT K φ F H ds vs → RepT K φ F H' ds vs
  | [], _, h => h
  | (_, d) :: ds, _, h => by
    obtain ⟨c, v, r, e, k, q, t⟩ := h
    exact ⟨c, v, r, e, k, Rep.off f d v q, RepT.off f ds r t⟩
end
theorem RepF.off (f : Off φ F a H H') : ∀ (ds : List (Str × D)) (vs : List (Str × V)), RepF K φ F H ds vs → RepF K φ F H' ds vs
  | [], _, h => h
  | (_, d) :: ds, _, h => by
    obtain ⟨v, r, e, q, t⟩ := h
    exact ⟨v, r, e, Rep.off f d v q, RepF.off f ds r t⟩
theorem ObRep.off (f : Off φ F a H H') {b : Addr} (hb : b ∈ φ) : ∀ {ob : Ob}, ObRep K ca φ F H b ob → ObRep K ca φ F H' b ob := fun {ob} h => by
  have e : H' b = H b := f.same b fun z => by subst z; exact f.np hb
  match ob, h with
  | .lst xs, ⟨vs, q, r⟩ => exact ⟨vs, e.trans q, Reps.off f xs vs r⟩
  | .dct false xs, ⟨vs, q, r⟩ => exact ⟨vs, e.trans q, RepK.off f xs vs r⟩
  | .dct true xs, ⟨vs, q, r⟩ => exact ⟨vs, e.trans q, RepT.off f xs vs r⟩
  | .ins c fs, ⟨dx, vs, q, r⟩ => exact ⟨dx, vs, e.trans q, RepF.off f fs vs r⟩
theorem StOk.off (o : StOk K ca φ F H st) (f : Off φ F a H H') : StOk K ca φ F H' st := by
  refine ⟨⟨fun b hb => ?_, o.base.sep, fun b hb => ?_⟩, o.nd, o.len, fun n ob b e1 e2 => (o.obs n ob b e1 e2).off f (List.mem_of_getElem? e2)⟩
  · obtain ⟨z, e, m⟩ := o.base.muo b hb
    exact ⟨z, (f.same b fun q => by subst q; exact f.np hb).trans e, m⟩
  · obtain ⟨z, e⟩ := o.base.trk b hb
    exact ⟨z, (f.ofF hb).trans e⟩
/-- from an earlier moment, at which a held nothing -/
theorem Step.off {φ0 : List Addr} {F0 : Addr → Prop} {H0 : Hp} (s : Step φ0 F0 H0 φ F H) (f : Off φ F a H H') (h0 : H0 a = Option.none) : Step φ0 F0 H0 φ F H' := by
  refine ⟨s.pre, s.fr, fun b o e nb => ?_, fun b o e => ?_, s.fresh, s.freshF⟩
  · have ne : b ≠ a := fun z => by subst z; rw [h0] at e; cases e
    rw [f.same b ne]
    exact s.keep b o e nb
  · have ne : b ≠ a := fun z => by subst z; rw [h0] at e; cases e
    rw [f.same b ne]
    exact s.there b o e

/-! ### what is walked -/
/-- values stay what they stand for -/
def Keeps (K : PySem.W.Frag) (φ : List Addr) (F : Addr → Prop) (H : Hp) (φ' : List Addr) (F' : Addr → Prop) (H' : Hp) : Prop := ∀ d v, Rep K φ F H d v → Rep K φ' F' H' d v
/-- what a loop (false), a comprehension (true) keeps -/
def RelK (K : PySem.W.Frag) (k : Bool) (φ : List Addr) (F : Addr → Prop) (H : Hp) (φ' : List Addr) (F' : Addr → Prop) (H' : Hp) : Prop := match k with
  | true => Step φ F H φ' F' H'
  | false => Keeps K φ F H φ' F' H'
def WalksOk (K : PySem.W.Frag) (ca : Nat → Addr) (k : Bool) (φ : List Addr) (F : Addr → Prop) (H : Hp) (src : Src) (J : L2.It) : Prop :=
  ∀ φ1 F1 H1 st1, RelK K k φ F H φ1 F1 H1 → StOk K ca φ1 F1 H1 st1 → src.ok st1 = true → ∀ i,
    (∀ d, src.xs[i]? = some d → J.go i H1 ∧ ∀ x H', J.yld i H1 x H' → ∃ F', Step φ1 F1 H1 φ1 F' H' ∧ StOk K ca φ1 F' H' st1 ∧ Rep K φ1 F' H' d x) ∧ (src.xs.length ≤ i → J.stop i H1)
def tIt (K : PySem.W.Frag) (ca : Nat → Addr) (C : Calls) (k : Bool) (it : It) : TI := fun σ H R => ∃ φ F env st src st1, StOk K ca φ F H st ∧ EnvOk K φ F H σ env ∧ evIt C it env st k = some (src, st1) ∧
  After K ca φ F H st1 fun φ' F' H' => ∀ J, WalksOk K ca k φ' F' H' src J → R J H'
theorem RelK.refl {k : Bool} : RelK K k φ F H φ F H := by
  cases k with
  | true => exact Step.refl
  | false => exact fun _ _ h => h
theorem walks_list {k : Bool} {d : D} {src : Src} {a : Addr} (h : ∀ φ1 F1 H1, RelK K k φ F H φ1 F1 H1 → PRep K φ1 F1 H1 d (.ref a)) (so : StOk K ca φ F H st) (e : srcOf st d = some src) (nt : ∀ ys, d ≠ .tup ys) :
    (∃ xs, SqL K H a xs) ∧ WalksOk K ca k φ F H src (Itl K a) := by
  -- at each later moment the list holds the items
  have at_ : ∀ φ1 F1 H1 st1, RelK K k φ F H φ1 F1 H1 → StOk K ca φ1 F1 H1 st1 → src.ok st1 = true → ∃ vs, SqL K H1 a vs ∧ Reps K φ1 F1 H1 src.xs vs := by
    intro φ1 F1 H1 st1 s o1 ok
    have h1 := h φ1 F1 H1 s
    unfold srcOf at e
    split at e
    · split at e
      · cases e
        obtain ⟨a', vs, e', q, r⟩ := h1.lst
        cases e'
        exact ⟨vs, SqL.of q, r⟩
      · cases e
    · split at e
      · cases e
        obtain ⟨a', vs, e', q, r⟩ := h1.plain rfl
        cases e'
        exact ⟨vs, q H1 fun _ _ z => z, r⟩
      · cases e
    · exact absurd rfl (nt _)
    · split at e
      · split at e
        · cases e
          obtain ⟨a', e', q⟩ := h1.plain rfl
          cases e'
          simp only [Src.ok] at ok
          split at ok
          · rename_i e2
            simp only [decide_eq_true_eq] at ok
            subst ok
            obtain ⟨vs, q2, r⟩ := o1.obs _ _ a e2 q
            exact ⟨vs, SqL.of q2, r⟩
          · cases ok
        · cases e
      · cases e
    · cases e
  have ok0 : src.ok st = true := by
    unfold srcOf at e
    split at e
    · split at e <;> cases e; rfl
    · split at e <;> cases e; rfl
    · split at e <;> cases e; rfl
    · split at e
      · rename_i e2
        split at e
        · cases e
          simp [Src.ok, e2]
        · cases e
      · cases e
    · cases e
  obtain ⟨vs, q, _⟩ := at_ φ F H st RelK.refl so ok0
  refine ⟨⟨vs, q⟩, fun φ1 F1 H1 st1 s o1 ok i => ?_⟩
  obtain ⟨vs, q, r⟩ := at_ φ1 F1 H1 st1 s o1 ok
  refine ⟨fun d hd => ?_, fun hi => ⟨vs, q, by rw [r.length]; exact hi⟩⟩
  obtain ⟨v, e1, r1⟩ := r.get hd
  refine ⟨⟨vs, v, q, e1⟩, fun x H' ⟨eH, y⟩ => ?_⟩
  have e2 := y vs q
  rw [e1] at e2
  cases e2
  rw [eH]
  exact ⟨F1, Step.refl, o1, r1⟩
theorem walks_tup {k : Bool} {xs : List D} {src : Src} {a : Addr} (b : Base φ F H) (h : Rep K φ F H (.tup xs) (.ref a)) (e : srcOf st (.tup xs) = some src) :
    (∃ xs, SqT K H a xs) ∧ WalksOk K ca k φ F H src (Itt K a) := by
  have ex : src = .vals xs := by
    unfold srcOf at e
    dsimp only at e
    split at e
    · cases e; rfl
    · cases e
  subst ex
  obtain ⟨a', vs, e', q, r⟩ := id h
  cases e'
  refine ⟨⟨vs, q⟩, fun φ1 F1 H1 st1 s o1 ok i => ?_⟩
  have hl : Rep K φ1 F1 H1 (.tup xs) (.ref a) := by
    cases k with
    | true => exact Rep.step b s _ _ h
    | false => exact s _ _ h
  obtain ⟨a', ws, e', q1, r1⟩ := hl
  cases e'
  refine ⟨fun d hd => ?_, fun hi => ⟨ws, q1, by rw [r1.length]; exact hi⟩⟩
  obtain ⟨v, e1, r2⟩ := r1.get hd
  refine ⟨⟨ws, v, q1, e1⟩, fun x H' ⟨eH, y⟩ => ?_⟩
  have e2 := y ws q1
  rw [e1] at e2
  cases e2
  rw [eH]
  exact ⟨F1, Step.refl, o1, r2⟩
theorem walks_rng {k : Bool} {lo hi : Int} {xs : List D} (e : rngD lo hi = some xs) : WalksOk K ca k φ F H (.vals xs) (Itr lo (hi - lo).toNat) := by
  unfold rngD at e
  split at e
  · cases e
    intro φ1 F1 H1 st1 s o1 ok i
    refine ⟨fun d hd => ?_, fun hi => ?_⟩
    · simp only [Src.xs, List.getElem?_map, Option.map_eq_some_iff] at hd
      obtain ⟨j, e1, rfl⟩ := hd
      obtain ⟨l, e2⟩ := List.getElem?_eq_some_iff.mp e1
      simp only [List.length_range] at l
      simp only [List.getElem_range] at e2
      subst e2
      refine ⟨l, fun x H' ⟨eH, ex⟩ => ?_⟩
      rw [eH, ex]
      exact ⟨F1, Step.refl, o1, rfl⟩
    · simp only [Src.xs, List.length_map, List.length_range] at hi
      exact hi
  · cases e
end
end Iv

set_option Elab.async false
set_option linter.all false
set_option maxRecDepth 100000
set_option maxHeartbeats 4000000
/-! Iv, part B7: the expressions, all of them at once. -/
namespace Iv
open PySem PySem.Spec PyProof.Rows L2

section
variable {S : Sta} {K : PySem.W.Frag} {ca fa : Nat → Addr} {C : Calls} {N : List Str}
variable {φ φ' : List Addr} {F F' : Addr → Prop} {H H' : Hp} {st st' : Sto} {σ : L2.St} {env : Env}
theorem ownOf_snd (vs : List Nat) : (ownOf N vs).map (·.2) = vs := by
  unfold ownOf
  rw [List.map_map]
  exact List.map_id vs
theorem foldedPlain {x : Expr} {env : PySem.Env} (h : plainX x = true) : ∀ v, foldedSetIterable x env v = pure v := by
  intro v
  cases x <;> first | rfl | (cases h)
theorem plainIt {sc : Scope} {fnc : Str → Bool} {it : It} {x : Expr} (h : ckIt S N sc fnc it x = true) : plainX x = true := by
  cases it with
  | seq e => exact plainX_of (by simpa [ckIt] using h)
  | rng1 a => cases x <;> simp_all [ckIt, plainX]
  | rng2 a b => cases x <;> simp_all [ckIt, plainX]
/-- a binary rule of two operands for the moment -/
theorem two_ops {X : Cx} {a b : E} {r : R2} {Q : VK} (so : StOk K ca φ F H st) (he : EnvOk K φ F H σ env) {p q : D × Sto} (h1 : pk a env st (evE C a env st) = some p) (h2 : pk b env p.2 (evE C b env p.2) = some q)
    (k : ∀ φ' F' H' x y, Step φ F H φ' F' H' → StOk K ca φ' F' H' q.2 → PRep K φ' F' H' p.1 x → PRep K φ' F' H' q.1 y → r x y H' Q) : tOp r (tP K ca C a) (tP K ca C b) σ H Q :=
  tP_i so he h1 fun φ1 F1 H1 s1 o1 x rx => tP_i o1 (he.step so.base s1) h2 fun φ2 F2 H2 s2 o2 y ry => k φ2 F2 H2 x y (s1.trans s2) o2 (rx.step o1.base s2) ry
theorem pt_of {X : Cx} (hk : X.K = K) {e : E} {x : Expr} (hp : PE X x (tP K ca C e)) (he : ∀ whole, isTrue x X.env whole = (do let v ← whole; standAt x.pos; holding [v] (truthy v))) : PT X x (tB_ K ca C e) := by
  refine PT_w (pt_truth hp he) fun σ H Q ⟨φ, F, env, st, b, st', so, heo, ev, k⟩ => ?_
  unfold evT at ev
  simp only [Option.bind_eq_some_iff, Option.map_eq_some_iff, Prod.mk.injEq] at ev
  obtain ⟨p, e1, b', e2, rfl, rfl⟩ := ev
  exact tP_i so heo e1 fun φ1 F1 H1 s1 o1 v rv => ⟨b', by rw [hk]; exact tru_v o1 rv e2, k φ1 F1 H1 s1 o1⟩

theorem srcOf_len {st : Sto} {d : D} {src : Src} (e : srcOf st d = some src) : src.xs.length ≤ 1000000 := by
  unfold srcOf at e
  split at e
  · split at e <;> cases e; assumption
  · split at e <;> cases e; assumption
  · split at e <;> cases e; assumption
  · split at e
    · split at e <;> cases e; assumption
    · cases e
  · cases e
theorem rngD_len {lo hi : Int} {xs : List D} (e : rngD lo hi = some xs) : xs.length ≤ 1000000 := by
  unfold rngD at e
  split at e
  · rename_i h
    cases e
    simp only [Bool.and_eq_true, decide_eq_true_eq] at h
    simp only [List.length_map, List.length_range]
    exact h.2.2.2.2
  · cases e
theorem evIt_len {it : It} {env : Env} {st : Sto} {k : Bool} {p : Src × Sto} (e : evIt C it env st k = some p) : p.1.xs.length ≤ 1000000 := by
  cases it with
  | seq x =>
    simp only [evIt, Option.bind_eq_some_iff, Option.map_eq_some_iff] at e
    obtain ⟨q, _, s, e2, rfl⟩ := e
    exact srcOf_len e2
  | rng1 a =>
    simp only [evIt, Option.bind_eq_some_iff] at e
    obtain ⟨q, _, e2⟩ := e
    split at e2
    · simp only [Option.map_eq_some_iff] at e2
      obtain ⟨xs, e3, rfl⟩ := e2
      exact rngD_len e3
    · cases e2
  | rng2 a b =>
    simp only [evIt, Option.bind_eq_some_iff] at e
    obtain ⟨q, _, q2, _, e2⟩ := e
    split at e2
    · simp only [Option.map_eq_some_iff] at e2
      obtain ⟨xs, e3, rfl⟩ := e2
      exact rngD_len e3
    · cases e2
/-- an expression's value, given up -/
def tD (K : PySem.W.Frag) (ca : Nat → Addr) (C : Calls) (e : E) : TE := fun σ H Q => ∃ φ F env st r st', StOk K ca φ F H st ∧ EnvOk K φ F H σ env ∧ evE C e env st = some (r, st') ∧ After K ca φ F H st' fun φ' F' H' => ∀ v, Rep K φ' F' H' r.d v → Q v H'
theorem pe_D {X : Cx} {e : E} {x : Expr} (h : PE X x (tE K ca C e)) : PE X x (tD K ca C e) :=
  PE_w h fun σ H Q ⟨φ, F, env, st, r, st', so, he, ev, k⟩ => tE_d so he ev fun φ1 F1 H1 s1 o1 v rv => k φ1 F1 H1 s1 o1 v rv
/-! ### a comprehension's loop -/
theorem lc_ok {X : Cx} (hk : X.K = K) {vs : List Nat} {t : T} {it : It} {c : Eo} {e : E} (w : t.within vs = true) {Q : VK} (h : tE K ca C (.lc vs t it c e) σ H Q) :
    tLc (tIt K ca C true it) (gOf X.K t) (tEt K ca C c) (tD K ca C e) vs σ H Q := by
  subst hk
  obtain ⟨φ, F, env, st, r, st', so, he, ev, want⟩ := h
  simp only [evE, Option.bind_eq_some_iff, Option.map_eq_some_iff, Prod.mk.injEq] at ev
  obtain ⟨⟨src, st1⟩, e1, ⟨ys, st2⟩, e2, rfl, rfl⟩ := ev
  refine ⟨φ, F, env, st, src, st1, so, he, e1, fun φ1 F1 H1 s1 o1 J hJ D hD => ?_⟩
  dsimp only at e2
  generalize hf : (fun x st => (bind C t x (wipeE env vs) st).bind fun q => (evEt C c q.1 q.2).bind fun (k : Bool × Sto) => if k.1 then (evE C e q.1 k.2).map fun (z : Rv × Sto) => (some z.1.d, z.2) else some (none, k.2)) = f at e2
  -- the state ahead of the i-th turn: the list at D holds acc
  refine ⟨fun i m Hi => ∃ φi Fi sti acc vacc rest, m = src.xs.length - i ∧ i ≤ src.xs.length ∧ Step φ1 F1 H1 φi Fi Hi ∧ StOk X.K ca φi Fi Hi sti ∧ Hi D = some (.lst vacc) ∧ Reps X.K φi Fi Hi acc vacc ∧ ¬ Fi D ∧ D ∉ φi ∧
      acc.length ≤ i ∧ lcGo f src.ok (src.xs.drop i) sti = some (rest, st2) ∧ acc ++ rest = ys, ⟨src.xs.length, ?_⟩, ?_⟩
  · exact ⟨φ1, F1, st1, [], [], ys, by simp, Nat.zero_le _, step_new o1.base hD, o1.new hD, upd_same, rfl, (o1.base.notNew hD).1, (o1.base.notNew hD).2, Nat.zero_le _, by simpa using e2, rfl⟩
  · rintro i m Hi ⟨φi, Fi, sti, acc, vacc, rest, rfl, hi, s2, o2, hDi, racc, nF, nφ, lacc, e3, eys⟩
    have ok : src.ok sti = true := by
      cases hd : src.xs.drop i with
      | nil =>
        rw [hd] at e3
        simp only [lcGo] at e3
        split at e3
        · assumption
        · cases e3
      | cons x r =>
        rw [hd] at e3
        simp only [lcGo] at e3
        split at e3
        · assumption
        · cases e3
    obtain ⟨go, stop⟩ := hJ φi Fi Hi sti s2 o2 ok i
    by_cases hlt : i < src.xs.length
    · right
      have hxi : src.xs[i]? = some src.xs[i] := List.getElem?_eq_getElem hlt
      obtain ⟨g1, g2⟩ := go _ hxi
      rw [List.drop_eq_getElem_cons hlt] at e3
      simp only [lcGo, if_pos ok, Option.bind_eq_some_iff, Option.map_eq_some_iff, Prod.mk.injEq] at e3
      obtain ⟨⟨o, st3⟩, e4, ⟨rest', st4⟩, e5, e6, rfl⟩ := e3
      refine ⟨g1, fun H5 => ∃ φi Fi sti acc vacc rest, i + 1 ≤ src.xs.length ∧ Step φ1 F1 H1 φi Fi H5 ∧ StOk X.K ca φi Fi H5 sti ∧ H5 D = some (.lst vacc) ∧ Reps X.K φi Fi H5 acc vacc ∧ ¬ Fi D ∧ D ∉ φi ∧
        acc.length ≤ i + 1 ∧ lcGo f src.ok (src.xs.drop (i + 1)) sti = some (rest, st4) ∧ acc ++ rest = ys, ?_, ?_⟩
      · rintro H5 ⟨a1, a2, a3, a4, a5, a6, a7, a8, a9, b1, b2, b3, b4, b5, b6, b7⟩
        exact ⟨src.xs.length - (i + 1), by omega, a1, a2, a3, a4, a5, a6, rfl, a7, a8, a9, b1, b2, b3, b4, b5, b6, b7⟩
      · intro x Hx yx
        obtain ⟨Fx, sx, ox, rx⟩ := g2 x Hx yx
        rw [← hf] at e4
        simp only [Option.bind_eq_some_iff] at e4
        obtain ⟨⟨env1, st5⟩, e7, ⟨b, st6⟩, e8, e9⟩ := e4
        have s3 := s2.trans sx
        have hex : EnvOk X.K φi Fx Hx (L2.wipe σ vs) (wipeE env vs) := ((he.step so.base (s1.trans s3)).wipe vs)
        refine gOf_ok (C := C) t _ x _ _ env1 sti st5 w hex rx e7 fun es σ2 nm => ?_
        subst es
        refine ⟨?_, ?_⟩
        · have := wipe_ext (σ := σ2) (τ := L2.wipe σ vs) (vs := vs) nm.len nm.out
          rw [this]
          refine (wipe_ext (wipe_length _ _) fun j hj => ?_)
          rw [wipe_at, if_neg hj]
        · refine ⟨φi, Fx, env1, st5, b, st6, ox, nm.ok, e8, fun φ3 F3 H3 s4 o3 => ?_⟩
          have s5 := s3.trans s4
          have dH : Hx D = some (.lst vacc) := sx.keep D _ hDi nφ
          have dH3 : H3 D = some (.lst vacc) := s4.keep D _ dH (fun z => nφ z)
          have dF : ¬ Fx D := fun z => (sx.freshF D z).elim nF fun y => by rw [hDi] at y; cases y
          have dF3 : ¬ F3 D := fun z => (s4.freshF D z).elim dF fun y => by rw [dH] at y; cases y
          have dφ3 : D ∉ φ3 := fun z => (s4.fresh D z).elim nφ fun y => by rw [dH] at y; cases y
          have racc3 : Reps X.K φ3 F3 H3 acc vacc := Reps.step ox.base s4 _ _ (Reps.step o2.base sx _ _ racc)
          cases b with
          | false =>
            simp only [Bool.false_eq_true, if_false, Option.some.injEq, Prod.mk.injEq] at e9
            obtain ⟨rfl, rfl⟩ := e9
            refine iteF ?_
            exact ⟨φ3, F3, st6, acc, vacc, rest', hlt, s5, o3, dH3, racc3, dF3, dφ3, by omega, e5, by rw [← eys, ← e6]; rfl⟩
          | true =>
            simp only [if_true, Option.map_eq_some_iff, Prod.mk.injEq] at e9
            obtain ⟨⟨z, st7⟩, e10, rfl, rfl⟩ := e9
            refine iteT ?_
            refine ⟨φ3, F3, env1, st6, z, st7, o3, nm.ok.step ox.base s4, e10, fun φ4 F4 H4 s6 o4 y ry => ?_⟩
            have dH4 : H4 D = some (.lst vacc) := s6.keep D _ dH3 dφ3
            have dF4 : ¬ F4 D := fun q => (s6.freshF D q).elim dF3 fun y => by rw [dH3] at y; cases y
            have dφ4 : D ∉ φ4 := fun q => (s6.fresh D q).elim dφ3 fun y => by rw [dH3] at y; cases y
            have racc4 : Reps X.K φ4 F4 H4 acc vacc := Reps.step o3.base s6 _ _ racc3
            have off : Off φ4 F4 D H4 (upd H4 D (.lst (vacc ++ [y]))) := ⟨fun b hb => upd_ne hb, ⟨_, dH4, (fun _ _ q => nomatch q), (fun _ q => nomatch q)⟩, ⟨_, upd_same⟩, dF4, dφ4⟩
            refine ⟨vacc, dH4, ?_, φ4, F4, st7, acc ++ [z.d], vacc ++ [y], rest', hlt, (s5.trans s6).off off hD, o4.off off, upd_same, Reps.off off _ _ (racc4.snoc ry), dF4, dφ4, by simp; omega, e5, by rw [← eys, ← e6]; simp⟩
            have l1 := racc.length
            have l2 := evIt_len e1
            rw [sizeLine_eq]
            dsimp only at l2
            omega
    · left
      have hi' : i = src.xs.length := by omega
      subst hi'
      refine ⟨stop (Nat.le_refl _), ?_⟩
      simp only [List.drop_length, lcGo, if_pos ok, Option.some.injEq, Prod.mk.injEq] at e3
      obtain ⟨rfl, rfl⟩ := e3
      rw [List.append_nil] at eys
      subst eys
      exact want φi Fi Hi _ (s1.trans s2) o2 ⟨D, vacc, rfl, hDi, racc, nF, nφ⟩ (fun _ a ea => by cases ea; exact s1.none hD)

/-! ### all expressions at once -/
theorem ckC_ok {X : Cx} {d : D} {c : Const} {j : Nat} {pos : Pos} (h : ckC d c = true) : ∃ v : V, (∀ φ F H, Rep K φ F H d v) ∧ PE X (.Constant c j pos) (tC v) := by
  unfold ckC at h
  split at h
  · exact ⟨.non, fun _ _ _ => rfl, pe_non⟩
  · simp only [beq_iff_eq] at h
    subst h
    exact ⟨.bl _, fun _ _ _ => rfl, pe_bl⟩
  · simp only [decide_eq_true_eq] at h
    subst h
    exact ⟨.int _, fun _ _ _ => rfl, pe_int⟩
  · simp only [decide_eq_true_eq] at h
    subst h
    exact ⟨.str _, fun _ _ _ => rfl, pe_str⟩
  · cases h
theorem bval_boot : ∀ b : Blt, (b = .len ∨ b = .sorted) → bootBuiltins (Str.ofString b.name) = some (.builtin b.name) := by
  rintro b (rfl | rfl) <;> decide +kernel
theorem bty_boot : ∀ b : Blt, (b = .int ∨ b = .list ∨ b = .tuple ∨ b = .str) → bootBuiltins (Str.ofString b.name) = some (.type b.name) := by
  rintro b (rfl | rfl | rfl | rfl) <;> decide +kernel
theorem pro_ok {p : Rv × Sto} {r : Rv} {Q : VK} (so : StOk K ca φ F H st) (k : Want K ca φ F H r st' Q)
    (e2 : (match p.1 with
    | .lst xs => some (.val (.ref p.2.length), p.2 ++ [.lst xs])
    | .dct t kvs => some (.val (.ref p.2.length), p.2 ++ [.dct t kvs])
    | .val _ => none : Option (Rv × Sto)) = some (r, st')) : Want K ca φ F H p.1 p.2 Q := by
  intro φ1 F1 H1 v s1 o1 rv fr
  have own : p.1.own = true := by
    cases hp : p.1 with
    | val d => rw [hp] at e2; cases e2
    | lst xs => rfl
    | dct t ks => rfl
  obtain ⟨a, u, ev1, hu, nf, np⟩ := rv.own_at own
  have h0 := fr own a ev1
  subst ev1
  have j : ∀ (n : Nat) (b : Addr), φ1[n]? = some b → (φ1 ++ [a])[n]? = some b := fun n b e => by
    rw [List.getElem?_append_left (List.getElem?_eq_some_iff.mp e).1]
    exact e
  have s2 : Step φ F H (φ1 ++ [a]) F1 H1 := ⟨fun n b e => j n b (s1.pre n b e), s1.fr, s1.keep, s1.there, fun b hb => by
    rcases List.mem_append.mp hb with hb | hb
    · exact s1.fresh b hb
    · have : b = a := by simpa using hb
      subst this
      exact .inr h0, s1.freshF⟩
  -- the object that it becomes
  have key : ∀ ob : Ob, ObRep K ca (φ1 ++ [a]) F1 H1 a ob → (∃ w, H1 a = some w ∧ mutO w = true) → r = .val (.ref p.2.length) → st' = p.2 ++ [ob] → Q (.ref a) H1 := by
    intro ob hob hm er es
    subst er es
    have st2 : StOk K ca (φ1 ++ [a]) F1 H1 (p.2 ++ [ob]) := by
      refine ⟨⟨fun b hb => ?_, fun b hb hb2 => ?_, o1.base.trk⟩, ?_, by simp [o1.len], fun n ob2 b f1 f2 => ?_⟩
      · rcases List.mem_append.mp hb with hb | hb
        · exact o1.base.muo b hb
        · have : b = a := by simpa using hb
          subst this
          exact hm
      · rcases List.mem_append.mp hb2 with hb2 | hb2
        · exact o1.base.sep b hb hb2
        · have : b = a := by simpa using hb2
          subst this
          exact nf hb
      · refine List.nodup_append.mpr ⟨o1.nd, by simp, fun b hb c hc => ?_⟩
        have : c = a := by simpa using hc
        subst this
        intro z
        subst z
        exact np hb
      · by_cases hn : n < p.2.length
        · rw [List.getElem?_append_left hn] at f1
          rw [List.getElem?_append_left (by rw [o1.len]; exact hn)] at f2
          exact (o1.obs n ob2 b f1 f2).more (fun _ z => z) j
        · have hn2 : n = p.2.length := by
            have := (List.getElem?_eq_some_iff.mp f1).1
            simp at this
            omega
          subst hn2
          simp at f1
          rw [← o1.len] at f2
          simp at f2
          subst f1 f2
          exact hob
    refine k (φ1 ++ [a]) F1 H1 _ s2 st2 ⟨a, rfl, ?_⟩ (fun z => nomatch z)
    rw [← o1.len]
    simp
  cases hp : p.1 with
  | val d => rw [hp] at own; cases own
  | lst xs =>
    rw [hp] at e2 rv
    obtain ⟨a', vs, ea, q, rr, _, _⟩ := rv
    cases ea
    simp only [Option.some.injEq, Prod.mk.injEq] at e2
    exact key (.lst xs) ⟨vs, q, Reps.more (fun _ z => z) j _ _ rr⟩ ⟨_, q, rfl⟩ e2.1.symm e2.2.symm
  | dct t ks =>
    rw [hp] at e2 rv
    simp only [Option.some.injEq, Prod.mk.injEq] at e2
    cases t with
    | false =>
      obtain ⟨a', vs, ea, q, rr, _, _⟩ := rv
      cases ea
      exact key (.dct false ks) ⟨vs, q, RepK.more (fun _ z => z) j _ _ rr⟩ ⟨_, q, rfl⟩ e2.1.symm e2.2.symm
    | true =>
      obtain ⟨a', vs, ea, q, rr, _, _⟩ := rv
      cases ea
      exact key (.dct true ks) ⟨vs, q, RepT.more (fun _ z => z) j _ _ rr⟩ ⟨_, q, rfl⟩ e2.1.symm e2.2.symm
theorem isTrue_simple {x : Expr} {env : PySem.Env} (h : simpleX x = true) : ∀ whole, isTrue x env whole = (do let v ← whole; standAt x.pos; holding [v] (truthy v)) := by
  intro whole
  cases x with
  | UnaryOp op a pos => cases op <;> first | rfl | (cases h)
  | BoolOp _ _ _ => cases h
  | IfExp _ _ _ _ => cases h
  | Compare _ _ _ _ => cases h
  | _ => rfl
def testE : E → Bool
  | .and _ _ => true
  | .or _ _ => true
  | .nt _ => true
  | .cmp _ _ _ => true
  | .chain _ _ _ _ _ => true
  | _ => false
theorem simple_of {e : E} {x : Expr} {sc : Scope} {fnc : Str → Bool} (h : ckE S N sc fnc e x = true) (t : testE e = false) : simpleX x = true := by
  cases e <;> first
    | (cases t; done)
    | (simp [ckE] at h; done)
    | (simp only [ckE, Bool.and_eq_true] at h; exact h.1)
    | (unfold ckE at h; split at h <;> first | rfl | (cases h))
theorem noBool_of {x : Expr} (h : simpleX x = true) : ¬ ∃ op vs pos, x = .BoolOp op vs pos := by
  rintro ⟨op, vs, pos, rfl⟩
  cases h
theorem src_ref {d : D} {v : V} {src : Src} (h : PRep K φ F H d v) (e : srcOf st d = some src) : ∃ a, v = .ref a := by
  unfold srcOf at e
  split at e
  · obtain ⟨a, _, e, _⟩ := h.lst
    exact ⟨a, e⟩
  · obtain ⟨a, _, e, _⟩ := h.plain rfl
    exact ⟨a, e⟩
  · obtain ⟨a, _, e, _⟩ := h.tup
    exact ⟨a, e⟩
  · obtain ⟨a, e, _⟩ := h.plain rfl
    exact ⟨a, e⟩
  · cases e
theorem smp {X : Cx} {sc : Scope} {fnc : Str → Bool} {e : E} {x : Expr} (hx : XOk S K ca fa C N sc fnc X) (h : ckE S N sc fnc e x = true) (t : testE e = false) (hp : PE X x (tE K ca C e)) :
    PE X x (tE K ca C e) ∧ ((∃ op vs pos, x = .BoolOp op vs pos) → PW X x (tB_ K ca C e)) ∧ PT X x (tB_ K ca C e) :=
  ⟨hp, fun z => (noBool_of (simple_of h t) z).elim, pt_of hx.k (pe_pk hx h hp) (isTrue_simple (simple_of h t))⟩
mutual
theorem sndE : ∀ (e : E) {X : Cx} {sc : Scope} {fnc : Str → Bool} (x : Expr), XOk S K ca fa C N sc fnc X → ckE S N sc fnc e x = true →
    PE X x (tE K ca C e) ∧ ((∃ op vs pos, x = .BoolOp op vs pos) → PW X x (tB_ K ca C e)) ∧ PT X x (tB_ K ca C e)
  | .var i, X, sc, fnc, x, hx, h => smp hx h rfl (by
    have hn : ∃ y pos, x = .Name y pos ∧ nmB N sc i y = true := by cases x <;> simp_all [ckE]
    obtain ⟨y, pos, rfl, hn⟩ := hn
    refine PE_w (nmB_ok hx hn) fun σ H Q ⟨φ, F, env, st, r, st', so, he, ev, k⟩ => ?_
    simp only [evE] at ev
    split at ev
    · rename_i d e1
      cases ev
      obtain ⟨v, e2, rv⟩ := he.at_ i _ e1
      exact ⟨v, e2, k.val so rv⟩
    · cases ev)
  | .con d, X, sc, fnc, x, hx, h => smp hx h rfl (by
    unfold ckE at h
    split at h
    · obtain ⟨v, rv, hp⟩ := ckC_ok (K := K) (X := X) h
      refine PE_w hp fun σ H Q ⟨φ, F, env, st, r, st', so, he, ev, k⟩ => ?_
      simp only [evE, Option.some.injEq, Prod.mk.injEq] at ev
      obtain ⟨rfl, rfl⟩ := ev
      exact k.val so (rv φ F H)
    · cases h)
  | .glo g d, X, sc, fnc, x, hx, h => smp hx h rfl (by
    unfold ckE at h
    split at h
    · simp only [Bool.and_eq_true, decide_eq_true_eq] at h
      obtain ⟨rfl, hg, hd, hc⟩ := h
      obtain ⟨u, v, hm, rv, rep⟩ := hx.fct.glos _ _ (by simpa using hc)
      refine PE_w (pe_glob (v := v) (glB_ok hx hg) hm rv (lkName hd)) fun σ H Q ⟨φ, F, env, st, r, st', so, he, ev, k⟩ => ?_
      simp only [evE, Option.some.injEq, Prod.mk.injEq] at ev
      obtain ⟨rfl, rfl⟩ := ev
      exact k.val so (rep φ F H)
    · cases h)
  | .tup es, X, sc, fnc, x, hx, h => smp hx h rfl (by
    unfold ckE at h
    split at h
    · refine PE_w (pe_tup (sndEs es _ hx h)) fun σ H Q ⟨φ, F, env, st, r, st', so, he, ev, k⟩ => ?_
      simp only [evE, Option.bind_eq_some_iff] at ev
      obtain ⟨p, e1, e2⟩ := ev
      split at e2
      · rename_i hl
        simp only [Option.some.injEq, Prod.mk.injEq] at e2
        obtain ⟨rfl, rfl⟩ := e2
        refine ⟨φ, F, env, st, p.1, p.2, so, he, e1, fun φ1 F1 H1 s1 o1 vs rv => ⟨?_, (k.later s1).tup o1 rv⟩⟩
        rw [rv.length, sizeLine_eq]
        omega
      · cases e2
    · cases h)
  | .lst es, X, sc, fnc, x, hx, h => smp hx h rfl (by
    unfold ckE at h
    split at h
    · refine PE_w (pe_lst (sndEs es _ hx h)) fun σ H Q ⟨φ, F, env, st, r, st', so, he, ev, k⟩ => ?_
      simp only [evE, Option.bind_eq_some_iff] at ev
      obtain ⟨p, e1, e2⟩ := ev
      split at e2
      · rename_i hl
        simp only [Option.some.injEq, Prod.mk.injEq] at e2
        obtain ⟨rfl, rfl⟩ := e2
        refine ⟨φ, F, env, st, p.1, p.2, so, he, e1, fun φ1 F1 H1 s1 o1 vs rv => ⟨?_, (k.later s1).lst o1 rv⟩⟩
        rw [rv.length, sizeLine_eq]
        omega
      · cases e2
    · cases h)
  | .dic t, X, sc, fnc, x, hx, h => smp hx h rfl (by
    unfold ckE at h
    split at h
    · cases t with
      | false =>
        refine PE_w pe_dnewK fun σ H Q ⟨φ, F, env, st, r, st', so, he, ev, k⟩ p hp => ?_
        simp only [evE, Option.some.injEq, Prod.mk.injEq] at ev
        obtain ⟨rfl, rfl⟩ := ev
        exact k φ F _ _ (step_new so.base hp) (so.new hp) ⟨p, [], rfl, upd_same, rfl, (so.base.notNew hp).1, (so.base.notNew hp).2⟩ fun _ a ea => by cases ea; exact hp
      | true =>
        refine PE_w pe_dnewT fun σ H Q ⟨φ, F, env, st, r, st', so, he, ev, k⟩ p hp => ?_
        simp only [evE, Option.some.injEq, Prod.mk.injEq] at ev
        obtain ⟨rfl, rfl⟩ := ev
        exact k φ F _ _ (step_new so.base hp) (so.new hp) ⟨p, [], rfl, upd_same, rfl, (so.base.notNew hp).1, (so.base.notNew hp).2⟩ fun _ a ea => by cases ea; exact hp
    · cases h)
  | .pro e, X, sc, fnc, x, hx, h => smp hx h rfl (by
    have h2 : ckE S N sc fnc e x = true := by
      simp only [ckE, Bool.and_eq_true] at h
      exact h.2
    refine PE_w (sndE e x hx h2).1 fun σ H Q ⟨φ, F, env, st, r, st', so, he, ev, k⟩ => ?_
    simp only [evE, Option.bind_eq_some_iff] at ev
    obtain ⟨p, e1, e2⟩ := ev
    exact ⟨φ, F, env, st, p.1, p.2, so, he, e1, pro_ok so k e2⟩)
  | .bop o a b, X, sc, fnc, x, hx, h => smp hx h rfl (by
    unfold ckE at h
    split at h
    · simp only [Bool.and_eq_true, decide_eq_true_eq] at h
      obtain ⟨rfl, ha, hb⟩ := h
      refine PE_w (pe_op (hx.k ▸ bop_ok (ca := ca) o) (pe_pk hx ha (sndE a _ hx ha).1) (pe_pk hx hb (sndE b _ hx hb).1)) fun σ H Q ⟨φ, F, env, st, r, st', so, he, ev, k⟩ => ?_
      simp only [evE, Option.bind_eq_some_iff, Option.map_eq_some_iff, Prod.mk.injEq] at ev
      obtain ⟨p, e1, q, e2, r', e3, rfl, rfl⟩ := ev
      exact two_ops (X := X) so he e1 e2 fun φ1 F1 H1 x y s1 o1 rx ry => ⟨φ1, F1, q.2, p.1, q.1, r', o1, rx, ry, e3, k.later s1⟩
    · cases h)
  | .neg a, X, sc, fnc, x, hx, h => smp hx h rfl (by
    unfold ckE at h
    split at h
    · refine PE_w (pe_un un_neg (sndE a _ hx h).1) fun σ H Q ⟨φ, F, env, st, r, st', so, he, ev, k⟩ => ?_
      simp only [evE, Option.bind_eq_some_iff] at ev
      obtain ⟨p, e1, e2⟩ := ev
      split at e2
      · rename_i i e3
        simp only [Option.some.injEq, Prod.mk.injEq] at e2
        obtain ⟨rfl, rfl⟩ := e2
        refine ⟨φ, F, env, st, p.1, p.2, so, he, e1, fun φ1 F1 H1 v s1 o1 rv fr => ?_⟩
        rw [e3] at rv
        exact ⟨i, rv, (k.later s1).val o1 rfl⟩
      · cases e2
    · cases h)
  | .nt a, X, sc, fnc, x, hx, h => And.intro (by
    unfold ckE at h
    split at h
    · refine PE_w (pe_notT (pe_pk hx h (sndE a _ hx h).1)) fun σ H Q ⟨φ, F, env, st, r, st', so, he, ev, k⟩ => ?_
      simp only [evE, Option.bind_eq_some_iff, Option.map_eq_some_iff, Prod.mk.injEq] at ev
      obtain ⟨p, e1, b, e2, rfl, rfl⟩ := ev
      exact tP_i so he e1 fun φ1 F1 H1 s1 o1 v rv => ⟨b, by rw [hx.k]; exact tru_v o1 rv e2, (k.later s1).val o1 rfl⟩
    · cases h) (by
    unfold ckE at h
    split at h
    · refine ⟨fun ⟨_, _, _, z⟩ => (nomatch z), PT_w (pt_not (sndE a _ hx h).2.2) fun σ H Q ⟨φ, F, env, st, t, st', so, he, ev, k⟩ => ?_⟩
      unfold evT at ev
      simp only [pk, evE, Option.bind_eq_some_iff, Option.map_eq_some_iff, Prod.mk.injEq] at ev
      obtain ⟨p, ⟨r', ⟨q, e1, t1, e2, e3⟩, rfl⟩, t2, e4, rfl, rfl⟩ := ev
      subst e3
      simp only [Rv.d, tru, Option.some.injEq] at e4
      subst e4
      exact ⟨φ, F, env, st, t1, q.2, so, he, by unfold evT; rw [show pk a env st (evE C a env st) = some q from e1]; simp [e2], k⟩
    · cases h)
  | .cmp o a b, X, sc, fnc, x, hx, h => And.intro (by
    unfold ckE at h
    split at h
    · simp only [Bool.and_eq_true, decide_eq_true_eq] at h
      obtain ⟨rfl, ha, hb⟩ := h
      refine PE_w (pe_cmpR (hx.k ▸ cop_ok (ca := ca) (by have := hx.units; omega) o) (pe_pk hx ha (sndE a _ hx ha).1) (pe_pk hx hb (sndE b _ hx hb).1) (noMarks (plainX_of hb) _)) fun σ H Q ⟨φ, F, env, st, r, st', so, he, ev, k⟩ => ?_
      simp only [evE, Option.bind_eq_some_iff, Option.map_eq_some_iff, Prod.mk.injEq] at ev
      obtain ⟨p, e1, q, e2, r', e3, rfl, rfl⟩ := ev
      exact two_ops (X := X) so he e1 e2 fun φ1 F1 H1 x y s1 o1 rx ry => ⟨φ1, F1, q.2, p.1, q.1, r', o1, rx, ry, e3, (k.later s1).val o1 rfl⟩
    · cases h) (by
    unfold ckE at h
    split at h
    · simp only [Bool.and_eq_true, decide_eq_true_eq] at h
      obtain ⟨rfl, ha, hb⟩ := h
      refine ⟨fun ⟨_, _, _, z⟩ => (nomatch z), PT_w (pt_cmpR (hx.k ▸ cop_ok (ca := ca) (by have := hx.units; omega) o) (pe_pk hx ha (sndE a _ hx ha).1) (pe_pk hx hb (sndE b _ hx hb).1) (noMarks (plainX_of hb) _)) fun σ H Q ⟨φ, F, env, st, t, st', so, he, ev, k⟩ => ?_⟩
      unfold evT at ev
      simp only [pk, evE, Option.bind_eq_some_iff, Option.map_eq_some_iff, Prod.mk.injEq] at ev
      obtain ⟨p, ⟨r', ⟨q1, e1, q2, e2, c, e3, e5⟩, rfl⟩, t2, e4, rfl, rfl⟩ := ev
      subst e5
      simp only [Rv.d, tru, Option.some.injEq] at e4
      subst e4
      exact two_ops (X := X) so he e1 e2 fun φ1 F1 H1 x y s1 o1 rx ry => ⟨φ1, F1, q2.2, q1.1, q2.1, c, o1, rx, ry, e3, c, rfl, k φ1 F1 H1 s1 o1⟩
    · cases h)
  | .chain o o' a b c, X, sc, fnc, x, hx, h => And.intro (by
    unfold ckE at h
    split at h
    · simp only [Bool.and_eq_true, decide_eq_true_eq] at h
      obtain ⟨rfl, rfl, ha, hb, hc⟩ := h
      have hu : X.A.units + 65 < cLine := by have := hx.units; omega
      refine PE_w (pe_chain (hx.k ▸ cop_ok (ca := ca) hu o) (hx.k ▸ cop_ok (ca := ca) hu o') (pe_pk hx ha (sndE a _ hx ha).1) (pe_pk hx hb (sndE b _ hx hb).1) (pe_pk hx hc (sndE c _ hx hc).1) (noMarks (plainX_of hc) _)) fun σ H Q ⟨φ, F, env, st, r, st', so, he, ev, k⟩ => ?_
      simp only [evE, Option.bind_eq_some_iff] at ev
      obtain ⟨p, e1, q, e2, b1, e3, e4⟩ := ev
      refine tP_i so he e1 fun φ1 F1 H1 s1 o1 x rx => tP_i o1 (he.step so.base s1) e2 fun φ2 F2 H2 s2 o2 y ry => ?_
      refine ⟨φ2, F2, q.2, p.1, q.1, b1, o2, rx.step o1.base s2, ry, e3, b1, rfl, ?_⟩
      cases b1 with
      | false =>
        simp only [Bool.false_eq_true, if_false, Option.some.injEq, Prod.mk.injEq] at e4
        obtain ⟨rfl, rfl⟩ := e4
        refine iteF ?_
        exact (k.later (s1.trans s2)).val o2 rfl
      | true =>
        simp only [if_true, Option.bind_eq_some_iff, Option.map_eq_some_iff, Prod.mk.injEq] at e4
        obtain ⟨z, e5, b2, e6, rfl, rfl⟩ := e4
        refine iteT (tP_i o2 (he.step so.base (s1.trans s2)) e5 fun φ3 F3 H3 s3 o3 w rw_ => ⟨φ3, F3, z.2, q.1, z.1, b2, o3, ry.step o2.base s3, rw_, e6, (k.later ((s1.trans s2).trans s3)).val o3 rfl⟩)
    · cases h) (by
    unfold ckE at h
    split at h
    · simp only [Bool.and_eq_true, decide_eq_true_eq] at h
      obtain ⟨rfl, rfl, ha, hb, hc⟩ := h
      have hu : X.A.units + 65 < cLine := by have := hx.units; omega
      refine ⟨fun ⟨_, _, _, z⟩ => (nomatch z), PT_w (pt_chain (hx.k ▸ cop_ok (ca := ca) hu o) (hx.k ▸ cop_ok (ca := ca) hu o') (pe_pk hx ha (sndE a _ hx ha).1) (pe_pk hx hb (sndE b _ hx hb).1) (pe_pk hx hc (sndE c _ hx hc).1) (noMarks (plainX_of hc) _))
        fun σ H Q ⟨φ, F, env, st, t, st', so, he, ev, k⟩ => ?_⟩
      unfold evT at ev
      simp only [pk, evE, Option.bind_eq_some_iff, Option.map_eq_some_iff, Prod.mk.injEq] at ev
      obtain ⟨pp, ⟨r', ⟨p, e1, q, e2, b1, e3, e4⟩, rfl⟩, t2, e7, rfl, rfl⟩ := ev
      refine tP_i so he e1 fun φ1 F1 H1 s1 o1 x rx => tP_i o1 (he.step so.base s1) e2 fun φ2 F2 H2 s2 o2 y ry => ?_
      refine ⟨φ2, F2, q.2, p.1, q.1, b1, o2, rx.step o1.base s2, ry, e3, b1, rfl, ?_⟩
      cases b1 with
      | false =>
        simp only [Bool.false_eq_true, if_false, Option.some.injEq] at e4
        subst e4
        simp only [Rv.d, tru, Option.some.injEq] at e7
        subst e7
        exact iteF ⟨false, rfl, k φ2 F2 H2 (s1.trans s2) o2⟩
      | true =>
        simp only [if_true, Option.bind_eq_some_iff, Option.map_eq_some_iff] at e4
        obtain ⟨z, e5, b2, e6, e8⟩ := e4
        subst e8
        simp only [Rv.d, tru, Option.some.injEq] at e7
        subst e7
        refine iteT (tP_i o2 (he.step so.base (s1.trans s2)) e5 fun φ3 F3 H3 s3 o3 w rw_ => ⟨φ3, F3, z.2, q.1, z.1, b2, o3, ry.step o2.base s3, rw_, e6, b2, rfl, k φ3 F3 H3 ((s1.trans s2).trans s3) o3⟩)
    · cases h)
  | .and a b, X, sc, fnc, x, hx, h => And.intro (by
    unfold ckE at h
    split at h
    · rename_i l m r pos
      simp only [Bool.and_eq_true] at h
      obtain ⟨ha, hb⟩ := h
      have hb2 : PE X (.BoolOp .And (m :: r) pos) (tE K ca C b) := by
        cases r with
        | nil => exact pe_one (sndE b _ hx hb).1
        | cons n r => exact (sndE b _ hx hb).1
      refine PE_w (pe_andT (sndE a _ hx ha).1 hb2) fun σ H Q ⟨φ, F, env, st, r, st', so, he, ev, k⟩ => ?_
      simp only [evE, Option.bind_eq_some_iff] at ev
      obtain ⟨p, e1, t, e2, e3⟩ := ev
      refine ⟨φ, F, env, st, p.1, p.2, so, he, e1, fun φ1 F1 H1 v s1 o1 rv fr => ?_⟩
      have pr : PRep K φ1 F1 H1 p.1.d v := by
        cases ho : p.1.own with
        | true => exact .inr ⟨p.1, rfl, ho, rv⟩
        | false =>
          cases hp : p.1 with
          | val d => rw [hp] at rv; exact .inl rv
          | lst xs => rw [hp] at ho; cases ho
          | dct t ks => rw [hp] at ho; cases ho
      refine ⟨t, by rw [hx.k]; exact tru_v o1 pr e2, ?_⟩
      cases t with
      | true =>
        simp only [if_true] at e3
        exact iteT ⟨φ1, F1, env, p.2, r, st', o1, he.step so.base s1, e3, k.later s1⟩
      | false =>
        simp only [Bool.false_eq_true, if_false, Option.some.injEq] at e3
        subst e3
        exact iteF (k φ1 F1 H1 v s1 o1 rv fr)
    · cases h) (by
    have main : PW X x (tB_ K ca C (.and a b)) := by
      unfold ckE at h
      split at h
      · rename_i l m r pos
        simp only [Bool.and_eq_true] at h
        obtain ⟨ha, hb⟩ := h
        have hb2 : PW X (.BoolOp .And (m :: r) pos) (tB_ K ca C b) := by
          cases r with
          | nil => exact pw_and1 (sndE b _ hx hb).2.2
          | cons n r => exact (sndE b _ hx hb).2.1 ⟨_, _, _, rfl⟩
        refine PW_w (pw_and (sndE a _ hx ha).2.2 hb2) fun σ H Q ⟨φ, F, env, st, t, st', so, he, ev, k⟩ => ?_
        unfold evT at ev
        simp only [pk, evE, Option.bind_eq_some_iff, Option.map_eq_some_iff, Prod.mk.injEq] at ev
        obtain ⟨p, ⟨r', ⟨q, e1, t1, e2, e3⟩, rfl⟩, t2, e4, rfl, rfl⟩ := ev
        refine ⟨φ, F, env, st, t1, q.2, so, he, by rw [evT, pk_of e1]; simp [e2], fun φ1 F1 H1 s1 o1 => ?_⟩
        cases t1 with
        | true =>
          simp only [if_true] at e3
          refine iteT ⟨φ1, F1, env, q.2, t2, _, o1, he.step so.base s1, by rw [evT, pk_of e3]; simp [e4], k.later s1⟩
        | false =>
          simp only [Bool.false_eq_true, if_false, Option.some.injEq] at e3
          subst e3
          rw [e2] at e4
          cases e4
          exact iteF (k φ1 F1 H1 s1 o1)
      · cases h
    exact ⟨fun _ => main, main.pt⟩)
  | .or a b, X, sc, fnc, x, hx, h => And.intro (by
    unfold ckE at h
    split at h
    · rename_i l m r pos
      simp only [Bool.and_eq_true] at h
      obtain ⟨ha, hb⟩ := h
      have hb2 : PE X (.BoolOp .Or (m :: r) pos) (tE K ca C b) := by
        cases r with
        | nil => exact pe_one (sndE b _ hx hb).1
        | cons n r => exact (sndE b _ hx hb).1
      refine PE_w (pe_orT (sndE a _ hx ha).1 hb2) fun σ H Q ⟨φ, F, env, st, r, st', so, he, ev, k⟩ => ?_
      simp only [evE, Option.bind_eq_some_iff] at ev
      obtain ⟨p, e1, t, e2, e3⟩ := ev
      refine ⟨φ, F, env, st, p.1, p.2, so, he, e1, fun φ1 F1 H1 v s1 o1 rv fr => ?_⟩
      have pr : PRep K φ1 F1 H1 p.1.d v := by
        cases ho : p.1.own with
        | true => exact .inr ⟨p.1, rfl, ho, rv⟩
        | false =>
          cases hp : p.1 with
          | val d => rw [hp] at rv; exact .inl rv
          | lst xs => rw [hp] at ho; cases ho
          | dct t ks => rw [hp] at ho; cases ho
      refine ⟨t, by rw [hx.k]; exact tru_v o1 pr e2, ?_⟩
      cases t with
      | false =>
        simp only [Bool.false_eq_true, if_false] at e3
        exact iteF ⟨φ1, F1, env, p.2, r, st', o1, he.step so.base s1, e3, k.later s1⟩
      | true =>
        simp only [if_true, Option.some.injEq] at e3
        subst e3
        exact iteT (k φ1 F1 H1 v s1 o1 rv fr)
    · cases h) (by
    have main : PW X x (tB_ K ca C (.or a b)) := by
      unfold ckE at h
      split at h
      · rename_i l m r pos
        simp only [Bool.and_eq_true] at h
        obtain ⟨ha, hb⟩ := h
        have hb2 : PW X (.BoolOp .Or (m :: r) pos) (tB_ K ca C b) := by
          cases r with
          | nil => exact pw_or1 (sndE b _ hx hb).2.2
          | cons n r => exact (sndE b _ hx hb).2.1 ⟨_, _, _, rfl⟩
        refine PW_w (pw_or (sndE a _ hx ha).2.2 hb2) fun σ H Q ⟨φ, F, env, st, t, st', so, he, ev, k⟩ => ?_
        unfold evT at ev
        simp only [pk, evE, Option.bind_eq_some_iff, Option.map_eq_some_iff, Prod.mk.injEq] at ev
        obtain ⟨p, ⟨r', ⟨q, e1, t1, e2, e3⟩, rfl⟩, t2, e4, rfl, rfl⟩ := ev
        refine ⟨φ, F, env, st, t1, q.2, so, he, by rw [evT, pk_of e1]; simp [e2], fun φ1 F1 H1 s1 o1 => ?_⟩
        cases t1 with
        | false =>
          simp only [Bool.false_eq_true, if_false] at e3
          refine iteF ⟨φ1, F1, env, q.2, t2, _, o1, he.step so.base s1, by rw [evT, pk_of e3]; simp [e4], k.later s1⟩
        | true =>
          simp only [if_true, Option.some.injEq] at e3
          subst e3
          rw [e2] at e4
          cases e4
          exact iteT (k φ1 F1 H1 s1 o1)
      · cases h
    exact ⟨fun _ => main, main.pt⟩)
  | .ix a i, X, sc, fnc, x, hx, h => smp hx h rfl (by
    unfold ckE at h
    split at h
    · simp only [Bool.and_eq_true] at h
      obtain ⟨ha, hb⟩ := h
      refine PE_w (pe_ix (hx.k ▸ ix_ok ca) (pe_pk hx ha (sndE a _ hx ha).1) (pe_pk hx hb (sndE i _ hx hb).1) (ixPlain (plainX_of hb))) fun σ H Q ⟨φ, F, env, st, r, st', so, he, ev, k⟩ => ?_
      simp only [evE, Option.bind_eq_some_iff, Option.map_eq_some_iff, Prod.mk.injEq] at ev
      obtain ⟨p, e1, q, e2, d, e3, rfl, rfl⟩ := ev
      exact two_ops (X := X) so he e1 e2 fun φ1 F1 H1 x y s1 o1 rx ry => ⟨φ1, F1, q.2, p.1, q.1, d, o1, rx, ry, e3, k.later s1⟩
    · cases h)
  | .sl a lo hi, X, sc, fnc, x, hx, h => smp hx h rfl (by
    unfold ckE at h
    split at h
    · simp only [Bool.and_eq_true] at h
      obtain ⟨ha, hl, hh⟩ := h
      refine PE_w (pe_slice (hx.k ▸ sl_ok ca) (pe_pk hx ha (sndE a _ hx ha).1) (sndEo lo _ hx hl) (sndEo hi _ hx hh)) fun σ H Q ⟨φ, F, env, st, r, st', so, he, ev, k⟩ => ?_
      simp only [evE, Option.bind_eq_some_iff, Option.map_eq_some_iff, Prod.mk.injEq] at ev
      obtain ⟨p, e1, q, e2, z, e3, r', e4, rfl, rfl⟩ := ev
      refine tP_i so he e1 fun φ1 F1 H1 s1 o1 x rx => ⟨φ1, F1, env, p.2, q.1, q.2, o1, he.step so.base s1, e2, fun φ2 F2 H2 s2 o2 => ?_⟩
      refine ⟨φ2, F2, env, q.2, z.1, z.2, o2, he.step so.base (s1.trans s2), e3, fun φ3 F3 H3 s3 o3 => ?_⟩
      exact ⟨φ3, F3, z.2, p.1, r', o3, rx.step o1.base (s2.trans s3), e4, k.later (s1.trans (s2.trans s3))⟩
    · cases h)
  | .call f es, X, sc, fnc, x, hx, h => smp hx h rfl (by
    unfold ckE at h
    split at h
    · rename_i y p xs pos
      simp only [Bool.and_eq_true] at h
      obtain ⟨hf, hg, hd, ha⟩ := h
      split at hf
      · rename_i fn e0
        simp only [decide_eq_true_eq] at hf
        obtain ⟨hm, hk⟩ := hx.fct.fns f fn y e0 hf
        have cp := hx.calls X ⟨rfl, rfl, rfl, rfl, rfl, rfl⟩ f fn e0
        cases xs with
        | nil =>
          refine PE_w (pe_callP0 cp (glB_ok hx hg) hm (hx.k ▸ hk) (lkName hd)) fun σ H Q ⟨φ, F, env, st, r, st', so, he, ev, k⟩ => ?_
          cases es with
          | nil =>
            simp only [evE, evEs, Option.bind_some] at ev
            exact ⟨φ, F, st, [], r, st', so, rfl, ev, k⟩
          | cons e es => simp [ckEs] at ha
        | cons x xs =>
          have hx2 : plainX x = true := by
            cases es with
            | nil => simp [ckEs] at ha
            | cons e es => simp only [ckEs, Bool.and_eq_true] at ha; exact plainX_of ha.1
          have hx3 : (backTo pos (starEach xs X.env)).any (·.1) = false := by
            cases es with
            | nil => simp [ckEs] at ha
            | cons e es => simp only [ckEs, Bool.and_eq_true] at ha; exact starEachs ha.2
          refine PE_w (pe_callP cp (glB_ok hx hg) hm (hx.k ▸ hk) (lkName hd) (sndEs es _ hx ha) hx2 hx3) fun σ H Q ⟨φ, F, env, st, r, st', so, he, ev, k⟩ => ?_
          simp only [evE, Option.bind_eq_some_iff] at ev
          obtain ⟨p, e1, e2⟩ := ev
          exact ⟨φ, F, env, st, p.1, p.2, so, he, e1, fun φ1 F1 H1 s1 o1 vs rv => ⟨φ1, F1, p.2, p.1, r, st', o1, rv, e2, k.later s1⟩⟩
      · cases hf
    · cases h)
  | .blt b es, X, sc, fnc, x, hx, h => smp hx h rfl (by
    unfold ckE at h
    split at h
    · rename_i y p xs pos
      simp only [Bool.and_eq_true, decide_eq_true_eq] at h
      obtain ⟨rfl, hg, hf, hb⟩ := h
      have hm := hx.fct.frees _ (by simpa using hf)
      have hg2 := glB_ok hx hg
      have ck : ckEs S N sc fnc es xs = true := by
        cases b <;> first | exact hb | (cases hb)
      cases xs with
      | nil =>
        refine PE_never fun σ H Q ⟨φ, F, env, st, r, st', so, he, ev, k⟩ => ?_
        cases es with
        | nil =>
          simp only [evE, evPs, Option.bind_some, Option.map_eq_some_iff] at ev
          obtain ⟨r, e1, _⟩ := ev
          cases b <;> simp [bltR] at e1
        | cons e es => simp [ckEs] at ck
      | cons x xs =>
        have hx2 : plainX x = true := by
          cases es with
          | nil => simp [ckEs] at ck
          | cons e es => simp only [ckEs, Bool.and_eq_true] at ck; exact plainX_of ck.1
        have hx3 : (backTo pos (starEach xs X.env)).any (·.1) = false := by
          cases es with
          | nil => simp [ckEs] at ck
          | cons e es => simp only [ckEs, Bool.and_eq_true] at ck; exact starEachs ck.2
        have fin : ∀ σ H Q, tE K ca C (.blt b es) σ H Q → tCB (bltT K ca b) (tAP K ca C es) σ H Q := fun σ H Q ⟨φ, F, env, st, r, st', so, he, ev, k⟩ => by
          simp only [evE, Option.bind_eq_some_iff, Option.map_eq_some_iff, Prod.mk.injEq] at ev
          obtain ⟨p, e1, r', e2, rfl, rfl⟩ := ev
          exact ⟨φ, F, env, st, p.1, p.2, so, he, e1, fun φ1 F1 H1 s1 o1 vs rv => ⟨φ1, F1, p.2, p.1, r', o1, rv, e2, k.later s1⟩⟩
        cases b with
        | len => exact PE_w (pe_callB (hx.k ▸ blt_len ca) hg2 hm (bval_boot .len (.inl rfl)) (sndPs es _ hx ck) (by decide +kernel) (by decide +kernel) (starEach_plain hx2) hx3) fin
        | int => exact PE_w (pe_callTy (hx.k ▸ blt_int ca) hg2 hm (bty_boot .int (.inl rfl)) (sndPs es _ hx ck) (by decide +kernel) (by decide +kernel) (starEach_plain hx2) hx3) fin
        | list => exact PE_w (pe_callTy (hx.k ▸ blt_list ca) hg2 hm (bty_boot .list (.inr (.inl rfl))) (sndPs es _ hx ck) (by decide +kernel) (by decide +kernel) (starEach_plain hx2) hx3) fin
        | tuple => exact PE_w (pe_callTy (hx.k ▸ blt_tuple ca) hg2 hm (bty_boot .tuple (.inr (.inr (.inl rfl)))) (sndPs es _ hx ck) (by decide +kernel) (by decide +kernel) (starEach_plain hx2) hx3) fin
        | sorted => exact PE_w (pe_callB (hx.k ▸ blt_sorted ca hx.units) hg2 hm (bval_boot .sorted (.inr rfl)) (sndPs es _ hx ck) (by decide +kernel) (by decide +kernel) (starEach_plain hx2) hx3) fin
        | str => exact PE_w (pe_callTy (hx.k ▸ blt_str ca hx.units hx.grd) hg2 hm (bty_boot .str (.inr (.inr (.inr rfl)))) (sndPs es _ hx ck) (by decide +kernel) (by decide +kernel) (starEach_plain hx2) hx3) fin
        | isList => cases hb
        | isBool => cases hb
    · cases h)
  | .mth _ _ _, X, sc, fnc, x, hx, h => smp hx h rfl (by simp [ckE] at h)
  | .att _ _, X, sc, fnc, x, hx, h => smp hx h rfl (by simp [ckE] at h)
  | .met _ _ _ _, X, sc, fnc, x, hx, h => smp hx h rfl (by simp [ckE] at h)
  | .new _ _, X, sc, fnc, x, hx, h => smp hx h rfl (by simp [ckE] at h)
  | .lc vs t it c e, X, sc, fnc, x, hx, h => smp hx h rfl (by
    unfold ckE at h
    split at h
    · rename_i elt tg iter ifs k scope pos
      simp only [Bool.and_eq_true, decide_eq_true_eq] at h
      obtain ⟨rfl, hb, hw, hi, ht, hc, he⟩ := h
      have bo : BlkOk X.N X.env.scope scope (ownOf N vs) := by rw [hx.n, hx.sc]; exact blkOk_by hb
      refine PE_w (pe_lc (g := gOf X.K t) hx.calm (by rw [hx.n]; exact hx.nd) (sndIt it true tg _ hx hi) bo (fun s H c2 cl fp => pgN (hx.blk s H scope cl c2 fp) t tg hw ht) (fun s H c2 cl fp => sndEt c _ (hx.blk s H scope cl c2 fp) hc)
        (fun s H c2 cl fp => pe_D (sndE e _ (hx.blk s H scope cl c2 fp) he).1) (foldedPlain (plainIt hi))) fun σ H Q hh => ?_
      rw [ownOf_snd]
      exact lc_ok hx.k hw hh
    · cases h)
theorem sndEs : ∀ (es : Es) {X : Cx} {sc : Scope} {fnc : Str → Bool} (xs : List Expr), XOk S K ca fa C N sc fnc X → ckEs S N sc fnc es xs = true → PA X xs (tA_ K ca C es)
  | .nil, X, sc, fnc, xs, hx, h => by
    cases xs with
    | nil =>
      refine PA_w pa_nil fun σ H Q ⟨φ, F, env, st, ds, st', so, he, ev, k⟩ => ?_
      simp only [evEs, Option.some.injEq, Prod.mk.injEq] at ev
      obtain ⟨rfl, rfl⟩ := ev
      exact k.now so [] rfl
    | cons x r => simp [ckEs] at h
  | .cons e es, X, sc, fnc, xs, hx, h => by
    cases xs with
    | nil => simp [ckEs] at h
    | cons x r =>
      simp only [ckEs, Bool.and_eq_true] at h
      refine PA_w (pa_cons (sndE e _ hx h.1).1 (sndEs es _ hx h.2) (starEach_plain (plainX_of h.1))) fun σ H Q ⟨φ, F, env, st, ds, st', so, he, ev, k⟩ => ?_
      simp only [evEs, Option.bind_eq_some_iff, Option.map_eq_some_iff, Prod.mk.injEq] at ev
      obtain ⟨p, e1, q, e2, rfl, rfl⟩ := ev
      refine tE_d so he e1 fun φ1 F1 H1 s1 o1 v rv => ⟨φ1, F1, env, p.2, q.1, q.2, o1, he.step so.base s1, e2, fun φ2 F2 H2 s2 o2 vs rvs => ?_⟩
      exact k φ2 F2 H2 (s1.trans s2) o2 (v :: vs) ⟨v, vs, rfl, Rep.step o1.base s2 _ _ rv, rvs⟩
theorem sndPs : ∀ (es : Es) {X : Cx} {sc : Scope} {fnc : Str → Bool} (xs : List Expr), XOk S K ca fa C N sc fnc X → ckEs S N sc fnc es xs = true → PA X xs (tAP K ca C es)
  | .nil, X, sc, fnc, xs, hx, h => by
    cases xs with
    | nil =>
      refine PA_w pa_nil fun σ H Q ⟨φ, F, env, st, ds, st', so, he, ev, k⟩ => ?_
      simp only [evPs, Option.some.injEq, Prod.mk.injEq] at ev
      obtain ⟨rfl, rfl⟩ := ev
      exact k.now so [] rfl
    | cons x r => simp [ckEs] at h
  | .cons e es, X, sc, fnc, xs, hx, h => by
    cases xs with
    | nil => simp [ckEs] at h
    | cons x r =>
      simp only [ckEs, Bool.and_eq_true] at h
      refine PA_w (pa_cons (pe_pk hx h.1 (sndE e _ hx h.1).1) (sndPs es _ hx h.2) (starEach_plain (plainX_of h.1))) fun σ H Q ⟨φ, F, env, st, ds, st', so, he, ev, k⟩ => ?_
      simp only [evPs, Option.bind_eq_some_iff, Option.map_eq_some_iff, Prod.mk.injEq] at ev
      obtain ⟨p, e1, q, e2, rfl, rfl⟩ := ev
      refine tP_i so he e1 fun φ1 F1 H1 s1 o1 v rv => ⟨φ1, F1, env, p.2, q.1, q.2, o1, he.step so.base s1, e2, fun φ2 F2 H2 s2 o2 vs rvs => ?_⟩
      exact k φ2 F2 H2 (s1.trans s2) o2 (v :: vs) ⟨v, vs, rfl, rv.step o1.base s2, rvs⟩
theorem sndEo : ∀ (e : Eo) {X : Cx} {sc : Scope} {fnc : Str → Bool} (x : Option Expr), XOk S K ca fa C N sc fnc X → ckEo S N sc fnc e x = true → PO X x (tO_ K ca C e)
  | .non, X, sc, fnc, x, hx, h => by
    cases x with
    | none =>
      refine PO_w po_none fun σ H Q ⟨φ, F, env, st, o, st', so, he, ev, k⟩ => ?_
      simp only [evEo, Option.some.injEq, Prod.mk.injEq] at ev
      obtain ⟨rfl, rfl⟩ := ev
      exact k.now so
    | some x => simp [ckEo] at h
  | .som e, X, sc, fnc, x, hx, h => by
    cases x with
    | none => simp [ckEo] at h
    | some x =>
      refine PO_w (po_some (sndE e _ hx (by simpa [ckEo] using h)).1) fun σ H Q ⟨φ, F, env, st, o, st', so, he, ev, k⟩ => ?_
      simp only [evEo, Option.bind_eq_some_iff] at ev
      obtain ⟨p, e1, e2⟩ := ev
      split at e2
      · rename_i i e3
        simp only [Option.some.injEq, Prod.mk.injEq] at e2
        obtain ⟨rfl, rfl⟩ := e2
        refine ⟨φ, F, env, st, p.1, p.2, so, he, e1, fun φ1 F1 H1 v s1 o1 rv fr => ?_⟩
        rw [e3] at rv
        exact ⟨i, rv, k φ1 F1 H1 s1 o1⟩
      · cases e2
theorem sndEt : ∀ (e : Eo) {X : Cx} {sc : Scope} {fnc : Str → Bool} (xs : List Expr), XOk S K ca fa C N sc fnc X → ckEt S N sc fnc e xs = true → PTs X xs (tEt K ca C e)
  | .non, X, sc, fnc, xs, hx, h => by
    cases xs with
    | nil =>
      refine PTs_w pts_nil fun σ H Q ⟨φ, F, env, st, o, st', so, he, ev, k⟩ => ?_
      simp only [evEt, Option.some.injEq, Prod.mk.injEq] at ev
      obtain ⟨rfl, rfl⟩ := ev
      exact k.now so
    | cons x r => simp [ckEt] at h
  | .som e, X, sc, fnc, xs, hx, h => by
    unfold ckEt at h
    split at h
    · refine PTs_w (pts_one (sndE e _ hx h).2.2) fun σ H Q ⟨φ, F, env, st, b, st', so, he, ev, k⟩ => ⟨φ, F, env, st, b, st', so, he, ?_, k⟩
      simpa [evEt, evT] using ev
    · cases h
theorem sndIt : ∀ (it : It) (k : Bool) {X : Cx} {sc : Scope} {fnc : Str → Bool} (tg x : Expr), XOk S K ca fa C N sc fnc X → ckIt S N sc fnc it x = true → PI X tg x (tIt K ca C k it)
  | .seq e, k, X, sc, fnc, tg, x, hx, h => by
    have h2 : ckE S N sc fnc e x = true := by simpa [ckIt] using h
    cases k with
    | true =>
      have hp := pe_pk hx h2 (sndE e _ hx h2).1
      refine PI_w (hx.k ▸ PI_or (pi_list hp) (pi_tup hp) : PI X tg x (fun σ H R => iList K _ σ H R ∨ iTup K _ σ H R)) fun σ H R ⟨φ, F, env, st, src, st1, so, he, ev, kk⟩ => ?_
      simp only [evIt, cond_true, Option.bind_eq_some_iff, Option.map_eq_some_iff, Prod.mk.injEq] at ev
      obtain ⟨p, e1, s, e2, rfl, rfl⟩ := ev
      by_cases ht : ∃ ys, p.1 = .tup ys
      · obtain ⟨ys, ht⟩ := ht
        refine .inr (tP_i so he e1 fun φ1 F1 H1 s1 o1 v rv => ?_)
        obtain ⟨a, rfl⟩ := src_ref rv e2
        rw [ht] at rv e2
        obtain ⟨q1, q2⟩ := walks_tup (ca := ca) (k := true) o1.base (rv.plain rfl) e2
        exact ⟨a, rfl, q1, kk φ1 F1 H1 s1 o1 _ q2⟩
      · refine .inl (tP_i so he e1 fun φ1 F1 H1 s1 o1 v rv => ?_)
        obtain ⟨a, rfl⟩ := src_ref rv e2
        obtain ⟨q1, q2⟩ := walks_list (ca := ca) (k := true) (fun _ _ _ s => rv.step o1.base s) o1 e2 fun ys z => ht ⟨ys, z⟩
        exact ⟨a, rfl, q1, kk φ1 F1 H1 s1 o1 _ q2⟩
    | false =>
      have hp := pe_D (sndE e _ hx h2).1
      refine PI_w (hx.k ▸ PI_or (pi_list hp) (pi_tup hp) : PI X tg x (fun σ H R => iList K _ σ H R ∨ iTup K _ σ H R)) fun σ H R ⟨φ, F, env, st, src, st1, so, he, ev, kk⟩ => ?_
      simp only [evIt, cond_false, Option.bind_eq_some_iff, Option.map_eq_some_iff, Prod.mk.injEq] at ev
      obtain ⟨pd, ⟨p, e1, rfl⟩, s, e2, rfl, rfl⟩ := ev
      dsimp only at e2
      by_cases ht : ∃ ys, p.1.d = .tup ys
      · obtain ⟨ys, ht⟩ := ht
        refine .inr ⟨φ, F, env, st, p.1, p.2, so, he, e1, fun φ1 F1 H1 s1 o1 v rv => ?_⟩
        obtain ⟨a, rfl⟩ := src_ref (.inl rv) e2
        rw [ht] at rv e2
        obtain ⟨q1, q2⟩ := walks_tup (ca := ca) (k := false) o1.base rv e2
        exact ⟨a, rfl, q1, kk φ1 F1 H1 s1 o1 _ q2⟩
      · refine .inl ⟨φ, F, env, st, p.1, p.2, so, he, e1, fun φ1 F1 H1 s1 o1 v rv => ?_⟩
        obtain ⟨a, rfl⟩ := src_ref (.inl rv) e2
        obtain ⟨q1, q2⟩ := walks_list (ca := ca) (k := false) (fun _ _ _ s => .inl (s _ _ rv)) o1 e2 fun ys z => ht ⟨ys, z⟩
        exact ⟨a, rfl, q1, kk φ1 F1 H1 s1 o1 _ q2⟩
  | .rng1 a, k, X, sc, fnc, tg, x, hx, h => by
    unfold ckIt at h
    split at h
    · simp only [Bool.and_eq_true, decide_eq_true_eq] at h
      obtain ⟨rfl, hg, hf, ha⟩ := h
      refine PI_w (pi_range1 (glB_ok hx hg) (hx.fct.frees _ (by simpa using hf)) (pa_cons (sndE a _ hx ha).1 pa_nil (starEach_plain (plainX_of ha))) (starEach_plain (plainX_of ha))) fun σ H R ⟨φ, F, env, st, src, st1, so, he, ev, kk⟩ => ?_
      simp only [evIt, Option.bind_eq_some_iff] at ev
      obtain ⟨p, e1, e2⟩ := ev
      split at e2
      · rename_i n e3
        simp only [Option.map_eq_some_iff, Prod.mk.injEq] at e2
        obtain ⟨xs, e4, rfl, rfl⟩ := e2
        refine ⟨φ, F, env, st, p.1, p.2, so, he, e1, fun φ1 F1 H1 v s1 o1 rv fr => ?_⟩
        rw [e3] at rv
        have w := walks_rng (k := k) (K := K) (ca := ca) (φ := φ1) (F := F1) (H := H1) e4
        unfold rngD at e4
        split at e4
        · rename_i hb
          simp only [Bool.and_eq_true, decide_eq_true_eq] at hb
          refine ⟨n, by rw [show v = V.int n from rv], by omega, by omega, ?_⟩
          rw [show n.toNat = (n - 0).toNat by simp]
          exact kk φ1 F1 H1 s1 o1 _ w
        · cases e4
      · cases e2
    · cases h
  | .rng2 a b, k, X, sc, fnc, tg, x, hx, h => by
    unfold ckIt at h
    split at h
    · simp only [Bool.and_eq_true, decide_eq_true_eq] at h
      obtain ⟨rfl, hg, hf, ha, hb⟩ := h
      refine PI_w (pi_range2 (glB_ok hx hg) (hx.fct.frees _ (by simpa using hf)) (pa_cons (sndE a _ hx ha).1 (pa_cons (sndE b _ hx hb).1 pa_nil (starEach_plain (plainX_of hb))) (starEach_plain (plainX_of ha))) (by rw [starEach_plain (plainX_of ha), starEach_plain (plainX_of hb)]; rfl) (starEach_plain (plainX_of hb)))
        fun σ H R ⟨φ, F, env, st, src, st1, so, he, ev, kk⟩ => ?_
      simp only [evIt, Option.bind_eq_some_iff] at ev
      obtain ⟨p, e1, q, e2, e3⟩ := ev
      split at e3
      · rename_i i j f1 f2
        simp only [Option.map_eq_some_iff, Prod.mk.injEq] at e3
        obtain ⟨xs, e4, rfl, rfl⟩ := e3
        refine ⟨φ, F, env, st, p.1, p.2, so, he, e1, fun φ1 F1 H1 v s1 o1 rv fr => ⟨φ1, F1, env, p.2, q.1, q.2, o1, he.step so.base s1, e2, fun φ2 F2 H2 u s2 o2 ru fu => ?_⟩⟩
        rw [f1] at rv
        rw [f2] at ru
        have w := walks_rng (k := k) (K := K) (ca := ca) (φ := φ2) (F := F2) (H := H2) e4
        unfold rngD at e4
        split at e4
        · rename_i hb
          simp only [Bool.and_eq_true, decide_eq_true_eq] at hb
          exact ⟨i, j, by rw [show v = V.int i from rv, show u = V.int j from ru], by omega, kk φ2 F2 H2 (s1.trans s2) o2 _ w⟩
        · cases e4
      · cases e3
    · cases h
end
end
end Iv

set_option Elab.async false
set_option linter.all false
set_option maxRecDepth 100000
set_option maxHeartbeats 4000000
/-! Iv, part B8: statements: which they are, what stands behind them. -/
namespace Iv
open PySem PySem.Spec PyProof.Rows L2

/-- the names that a swap would store -/
def swNames (sc : Scope) (line : Nat) (ts : List Expr) : List Str := ts.filterMap fun
  | .Name id pos => if sc.names.lookup id == some .local && pos.line == line then some id else none
  | _ => none
/-- no swapped stores -/
def swNone (sc : Scope) : Expr → Expr → Bool
  | .Tuple ts _ _, .Tuple vs _ _ => (!(ts.length == 2 || ts.length == 3) || vs.length != ts.length) || (vs.any fun | .Starred .. => true | _ => false) || (swNames sc ((ts.head?.map (·.pos.line)).getD 0) ts).length != ts.length
  | .List _ _, _ => false
  | _, _ => true
/-- whether y = [..] stores within the comprehension's frame -/
def swSet (sc : Scope) (y : Str) (py : Pos) : Expr → Bool
  | .ListComp elt gs scope pos => decide (sc.names.lookup y = some .local) && ((py.line == pos.line) && !(scope.names.any fun (n, k) => n == y && (k == .local || k == .cell)))
  | _ => false
def appName : Str := ("append" : Str)
section
variable (S : Sta) (N : List Str) (sc : Scope)
mutual
def ckS : Iv.S → Stmt → Bool
  | .asg i e, x => (match x with
    | .Assign [.Name y py] v _ => decide (N[i]? = some y) && (locB sc (fun _ => true) y && ckE S N sc (fun _ => true) e v)
    | _ => false)
  | .asgO i e, x => (match x with
    | .Assign [.Name y py] v _ => decide (N[i]? = some y) && (locB sc (fun _ => true) y && ckE S N sc (fun _ => true) e v)
    | _ => false)
  | .tgt t e, x => (match x with
    | .Assign [tg] v _ => swNone sc tg v && (noComp v && (ckT S N sc (fun _ => true) t tg && ckE S N sc (fun _ => true) e v))
    | _ => false)
  | .par _ _ _ _, _ => false
  | .satt _ _ _, _ => false
  | .ifs c a b, x => (match x with
    | .If t p q _ => ckE S N sc (fun _ => true) c t && (ckSs a p && ckSs b q)
    | _ => false)
  | .whl c b, x => (match x with
    | .While t p [] _ => ckE S N sc (fun _ => true) c t && ckSs b p
    | _ => false)
  | .for_ t it b, x => (match x with
    | .For tg e p [] _ => ckT S N sc (fun _ => true) t tg && (ckIt S N sc (fun _ => true) it e && ckSs b p)
    | _ => false)
  | .ret e, x => (match x with
    | .Return (some v) _ => ckE S N sc (fun _ => true) e v
    | _ => false)
  | .retV i, x => (match x with
    | .Return (some (.Name y _)) _ => nmB N sc i y
    | _ => false)
  | .retN, x => (match x with
    | .Return none _ => true
    | _ => false)
  | .ex e, x => (match x with
    | .Expr v _ => noComp v && ckE S N sc (fun _ => true) e v
    | _ => false)
  | .app o v, x => (match o, x with
    | .var i, .Expr (.Call (.Attribute (.Name y p1) g p2) [w] [] p3) _ => decide (g = appName) && ((p2.endLine == p3.line) && (nmB N sc i y && ckE S N sc (fun _ => true) v w))
    | _, _ => false)
  | .clr _, _ => false
  | .share _, _ => false
  | .pass, x => (match x with
    | .Pass _ => true
    | _ => false)
  | .brk, x => (match x with
    | .Break _ => true
    | _ => false)
  | .cnt, x => (match x with
    | .Continue _ => true
    | _ => false)
def ckSs : Ss → List Stmt → Bool
  | .nil, xs => (match xs with
    | [] => true
    | _ :: _ => false)
  | .cons (.share i) r, xs => ckSs r xs
  | .cons s r, xs => (match xs with
    | x :: ys => ckS s x && ckSs r ys
    | [] => false)
end
end

/-- the moment within a def's body, behind its entry -/
structure SInv (K : PySem.W.Frag) (ca : Nat → Addr) (φ0 : List Addr) (F0 : Addr → Prop) (H0 : Hp) (φ : List Addr) (F : Addr → Prop) (H : Hp) (σ : L2.St) (env : Env) (st : Sto) : Prop where
  step : Step φ0 F0 H0 φ F H
  so : StOk K ca φ F H st
  he : EnvOk K φ F H σ env
  own : ∀ (i : Nat) (r : Rv) (a : Addr), env[i]? = some (some r) → r.own = true → σ[i]? = some (some (.ref a)) → H0 a = none
/-- what is wanted behind a statement that began at φ, F, H -/
def SEnd (K : PySem.W.Frag) (ca : Nat → Addr) (φ0 : List Addr) (F0 : Addr → Prop) (H0 : Hp) (φ : List Addr) (F : Addr → Prop) (H : Hp) (D : Ends) (fl : Fl) (env : Env) (st : Sto) : Prop := match fl with
  | .nx => ∀ φ' F' H' σ, SInv K ca φ0 F0 H0 φ' F' H' σ env st → Keeps K φ F H φ' F' H' → D.nx σ H'
  | .bk => ∀ φ' F' H' σ, SInv K ca φ0 F0 H0 φ' F' H' σ env st → Keeps K φ F H φ' F' H' → D.bk σ H'
  | .ct => ∀ φ' F' H' σ, SInv K ca φ0 F0 H0 φ' F' H' σ env st → Keeps K φ F H φ' F' H' → D.ct σ H'
  | .rt r => Want K ca φ0 F0 H0 r st D.rt
def tS_ (K : PySem.W.Frag) (ca : Nat → Addr) (C : Calls) (wf : Nat) (s : Iv.S) : TS := fun D σ H => ∃ φ0 F0 H0 φ F env st fl env' st', SInv K ca φ0 F0 H0 φ F H σ env st ∧ exS C wf s env st = some (fl, env', st') ∧ SEnd K ca φ0 F0 H0 φ F H D fl env' st'
def tSs_ (K : PySem.W.Frag) (ca : Nat → Addr) (C : Calls) (wf : Nat) (s : Ss) : TS := fun D σ H => ∃ φ0 F0 H0 φ F env st fl env' st', SInv K ca φ0 F0 H0 φ F H σ env st ∧ exSs C wf s env st = some (fl, env', st') ∧ SEnd K ca φ0 F0 H0 φ F H D fl env' st'
theorem PS_w {X : Cx} {s : Stmt} {t t' : TS} (h : PS X s t) (w : ∀ D σ H, t' D σ H → t D σ H) : PS X s t' := ⟨fun pins s σ H D I q => h.run pins s σ H D I (w D σ H q)⟩
theorem PSs_w {X : Cx} {s : List Stmt} {t t' : TS} (h : PSs X s t) (w : ∀ D σ H, t' D σ H → t D σ H) : PSs X s t' := ⟨fun pins s σ H D I q => h.run pins s σ H D I (w D σ H q)⟩
theorem PG_w {X : Cx} {e : Expr} {t t' : TG} (h : PG X e t) (w : ∀ v σ H Q, t' v σ H Q → t v σ H Q) : PG X e t' := ⟨fun pins s σ H v u Q I r q => h.run pins s σ H v u Q I r (w v σ H Q q)⟩

section
variable {K : PySem.W.Frag} {ca : Nat → Addr} {φ0 φ φ' : List Addr} {F0 F F' : Addr → Prop} {H0 H H' : Hp} {st st' : Sto} {σ σ' : L2.St} {env env' : Env}
theorem SInv.later (s : SInv K ca φ0 F0 H0 φ F H σ env st) (t : Step φ F H φ' F' H') (o : StOk K ca φ' F' H' st') : SInv K ca φ0 F0 H0 φ' F' H' σ env st' :=
  ⟨s.step.trans t, o, s.he.step s.so.base t, s.own⟩
theorem SInv.set (s : SInv K ca φ0 F0 H0 φ F H σ env st) {i : Nat} {d : D} {v : V} (r : Rep K φ F H d v) (hi : i < env.length) : SInv K ca φ0 F0 H0 φ F H (σ.set i (some v)) (env.set i (some (.val d))) st := by
  refine ⟨s.step, s.so, s.he.set r hi, fun j r' a e o e2 => ?_⟩
  by_cases hj : i = j
  · subst hj
    rw [List.getElem?_set_self hi] at e
    cases e
    cases o
  · rw [List.getElem?_set_ne hj] at e e2
    exact s.own j r' a e o e2
/-- a name takes something of its own -/
theorem SInv.setO (s : SInv K ca φ0 F0 H0 φ F H σ env st) {i : Nat} {r : Rv} {v : V} (rv : RvRep K φ F H r v) (hi : i < env.length) (f : r.own = true → ∀ a, v = .ref a → H0 a = none)
    (ap : r.own = true → ∀ (j : Nat) (rj : Rv) (a : Addr), j ≠ i → env[j]? = some (some rj) → rj.own = true → σ[j]? = some (some (.ref a)) → v ≠ .ref a) : SInv K ca φ0 F0 H0 φ F H (σ.set i (some v)) (env.set i (some r)) st := by
  have hi2 : i < σ.length := by rw [← s.he.len]; exact hi
  refine ⟨s.step, s.so, ⟨by rw [List.length_set, List.length_set]; exact s.he.len, fun j r' e => ?_, fun j k rj rk a e1 e2 o1 o2 s1 s2 => ?_⟩, fun j r' a e o e2 => ?_⟩
  · by_cases hj : i = j
    · subst hj
      rw [List.getElem?_set_self hi] at e
      cases e
      exact ⟨v, List.getElem?_set_self hi2, rv⟩
    · rw [List.getElem?_set_ne hj] at e
      obtain ⟨v', e1, r1⟩ := s.he.at_ j r' e
      exact ⟨v', by rw [List.getElem?_set_ne hj]; exact e1, r1⟩
  · by_cases hj : i = j
    · by_cases hk : i = k
      · exact hj.symm.trans hk
      · subst hj
        rw [List.getElem?_set_self hi] at e1
        rw [List.getElem?_set_self hi2] at s1
        rw [List.getElem?_set_ne hk] at e2 s2
        cases e1
        simp only [Option.some.injEq] at s1
        exact absurd s1 (ap o1 k rk a (Ne.symm hk) e2 o2 s2)
    · by_cases hk : i = k
      · subst hk
        rw [List.getElem?_set_self hi] at e2
        rw [List.getElem?_set_self hi2] at s2
        rw [List.getElem?_set_ne hj] at e1 s1
        cases e2
        simp only [Option.some.injEq] at s2
        exact absurd s2 (ap o2 j rj a (Ne.symm hj) e1 o1 s1)
      · rw [List.getElem?_set_ne hj] at e1 s1
        rw [List.getElem?_set_ne hk] at e2 s2
        exact s.he.apart j k rj rk a e1 e2 o1 o2 s1 s2
  · by_cases hj : i = j
    · subst hj
      rw [List.getElem?_set_self hi] at e
      rw [List.getElem?_set_self hi2] at e2
      cases e
      simp only [Option.some.injEq] at e2
      exact f o a e2
    · rw [List.getElem?_set_ne hj] at e e2
      exact s.own j r' a e o e2
/-- the address of a name's own thing -/
theorem SInv.ownAt (s : SInv K ca φ0 F0 H0 φ F H σ env st) {i : Nat} {r : Rv} (e : env[i]? = some (some r)) (o : r.own = true) : ∃ a u, σ[i]? = some (some (.ref a)) ∧ H a = some u ∧ RvRep K φ F H r (.ref a) ∧ ¬ F a ∧ a ∉ φ ∧ H0 a = none := by
  obtain ⟨v, e1, rv⟩ := s.he.at_ i r e
  obtain ⟨a, u, rfl, hu, nf, np⟩ := rv.own_at o
  exact ⟨a, u, e1, hu, rv, nf, np, s.own i r a e o e1⟩
/-- a fresh own thing is no other name's -/
theorem SInv.fresh (s : SInv K ca φ0 F0 H0 φ F H σ env st) {a : Addr} (h : H a = none) (j : Nat) (rj : Rv) (b : Addr) (e : env[j]? = some (some rj)) (o : rj.own = true) (e2 : σ[j]? = some (some (.ref b))) : (V.ref a) ≠ .ref b := by
  intro z
  cases z
  obtain ⟨v, e1, rv⟩ := s.he.at_ j rj e
  obtain ⟨c, u, ec, hu, _, _⟩ := rv.own_at o
  rw [e1] at e2
  cases e2
  cases ec
  rw [h] at hu
  cases hu
/-- a name gives up its own thing -/
theorem SInv.share (s : SInv K ca φ0 F0 H0 φ F H σ env st) {i : Nat} {r : Rv} (e : env[i]? = some (some r)) : ∃ F', (∀ a, F a → F' a) ∧ SInv K ca φ0 F0 H0 φ F' H σ (env.set i (some (.val r.d))) st := by
  obtain ⟨v, e1, rv⟩ := s.he.at_ i r e
  have hi : i < env.length := (List.getElem?_eq_some_iff.mp e).1
  have hi2 : i < σ.length := (List.getElem?_eq_some_iff.mp e1).1
  refine ⟨addF F v r, fun _ z => .inl z, step_addF s.step (fun o a ea => s.own i r a e o (ea ▸ e1)), s.so.addF rv, ⟨by rw [List.length_set]; exact s.he.len, fun j r' ej => ?_, fun j k rj rk a f1 f2 o1 o2 s1 s2 => ?_⟩, fun j r' a ej o e2 => ?_⟩
  · by_cases hj : i = j
    · subst hj
      rw [List.getElem?_set_self hi] at ej
      cases ej
      exact ⟨v, e1, rv.give⟩
    · rw [List.getElem?_set_ne hj] at ej
      obtain ⟨v', e2, r2⟩ := s.he.at_ j r' ej
      refine ⟨v', e2, ?_⟩
      have more : ∀ a, F a → addF F v r a := fun _ z => .inl z
      have nF : ∀ a, r'.own = true → v' = .ref a → ¬ F a → ¬ addF F v r a := fun a o ea nf z => by
        rcases z with z | ⟨o1, z⟩
        · exact nf z
        · exact hj (s.he.apart i j r r' a e ej o1 o (z ▸ e1) (ea ▸ e2))
      match r', r2 with
      | .val d, r2 => exact Rep.more more (fun _ _ z => z) _ _ r2
      | .lst xs, ⟨a, vs, ea, q, rr, nf, np⟩ => exact ⟨a, vs, ea, q, Reps.more more (fun _ _ z => z) _ _ rr, nF a rfl ea nf, np⟩
      | .dct false xs, ⟨a, vs, ea, q, rr, nf, np⟩ => exact ⟨a, vs, ea, q, RepK.more more (fun _ _ z => z) _ _ rr, nF a rfl ea nf, np⟩
      | .dct true xs, ⟨a, vs, ea, q, rr, nf, np⟩ => exact ⟨a, vs, ea, q, RepT.more more (fun _ _ z => z) _ _ rr, nF a rfl ea nf, np⟩
  · have nj : i ≠ j := fun z => by
      subst z
      rw [List.getElem?_set_self hi] at f1
      cases f1
      cases o1
    have nk : i ≠ k := fun z => by
      subst z
      rw [List.getElem?_set_self hi] at f2
      cases f2
      cases o2
    rw [List.getElem?_set_ne nj] at f1
    rw [List.getElem?_set_ne nk] at f2
    exact s.he.apart j k rj rk a f1 f2 o1 o2 s1 s2
  · have nj : i ≠ j := fun z => by
      subst z
      rw [List.getElem?_set_self hi] at ej
      cases ej
      cases o
    rw [List.getElem?_set_ne nj] at ej
    exact s.own j r' a ej o e2
/-- RvRep where nothing but another address changed -/
theorem RvRep.off {a : Addr} (f : Off φ F a H H') : ∀ (r : Rv) (v : V), RvRep K φ F H r v → (r.own = true → v ≠ .ref a) → RvRep K φ F H' r v
  | .val d, v, h, _ => Rep.off f d v h
  | .lst xs, v, h, n => by
    obtain ⟨b, vs, e, q, rr, nf, np⟩ := h
    exact ⟨b, vs, e, (f.same b fun z => n rfl (z ▸ e)).trans q, Reps.off f xs vs rr, nf, np⟩
  | .dct false xs, v, h, n => by
    obtain ⟨b, vs, e, q, rr, nf, np⟩ := h
    exact ⟨b, vs, e, (f.same b fun z => n rfl (z ▸ e)).trans q, RepK.off f xs vs rr, nf, np⟩
  | .dct true xs, v, h, n => by
    obtain ⟨b, vs, e, q, rr, nf, np⟩ := h
    exact ⟨b, vs, e, (f.same b fun z => n rfl (z ▸ e)).trans q, RepT.off f xs vs rr, nf, np⟩
/-- a name's own thing changes -/
theorem SInv.change (s : SInv K ca φ0 F0 H0 φ F H σ env st) {i : Nat} {r r' : Rv} {a : Addr} {u : HO} (e : env[i]? = some (some r)) (o : r.own = true) (e1 : σ[i]? = some (some (.ref a))) (o' : r'.own = true)
    (f : Off φ F a H (upd H a u)) (rv : RvRep K φ F (upd H a u) r' (.ref a)) : SInv K ca φ0 F0 H0 φ F (upd H a u) σ (env.set i (some r')) st := by
  have hi : i < env.length := (List.getElem?_eq_some_iff.mp e).1
  have h0 := s.own i r a e o e1
  refine ⟨s.step.off f h0, s.so.off f, ⟨by rw [List.length_set]; exact s.he.len, fun j rj ej => ?_, fun j k rj rk b f1 f2 o1 o2 s1 s2 => ?_⟩, fun j rj b ej oj e2 => ?_⟩
  · by_cases hj : i = j
    · subst hj
      rw [List.getElem?_set_self hi] at ej
      cases ej
      exact ⟨_, e1, rv⟩
    · rw [List.getElem?_set_ne hj] at ej
      obtain ⟨v', e2, r2⟩ := s.he.at_ j rj ej
      exact ⟨v', e2, RvRep.off f rj v' r2 fun oj z => hj (s.he.apart i j r rj a e ej o oj e1 (z ▸ e2))⟩
  · have fix : ∀ (j : Nat) (rj : Rv), (env.set i (some r'))[j]? = some (some rj) → rj.own = true → ∃ r2, env[j]? = some (some r2) ∧ r2.own = true := fun j rj ej oj => by
      by_cases hj : i = j
      · subst hj
        exact ⟨r, e, o⟩
      · rw [List.getElem?_set_ne hj] at ej
        exact ⟨rj, ej, oj⟩
    obtain ⟨r1, g1, p1⟩ := fix j rj f1 o1
    obtain ⟨r2, g2, p2⟩ := fix k rk f2 o2
    exact s.he.apart j k r1 r2 b g1 g2 p1 p2 s1 s2
  · by_cases hj : i = j
    · subst hj
      rw [e1] at e2
      cases e2
      exact h0
    · rw [List.getElem?_set_ne hj] at ej
      exact s.own j rj b ej oj e2
/-- an object of the store changes -/
theorem upd_obj (o : StOk K ca φ F H st) {n : Nat} {a : Addr} {ob : Ob} {u : HO} (hn : φ[n]? = some a) (m : mutO u = true) (w : ∀ H' φ' F', Step φ F H φ' F' H' → H' a = some u → ObRep K ca φ' F' H' a ob) :
    Step φ F H φ F (upd H a u) ∧ StOk K ca φ F (upd H a u) (st.set n ob) := by
  have ha : a ∈ φ := List.mem_of_getElem? hn
  have s : Step φ F H φ F (upd H a u) := ⟨fun _ _ z => z, fun _ z => z, fun b o2 e nb => by rw [upd_ne (fun (z : b = a) => nb (z ▸ ha))]; exact e, fun b o2 e => by
    by_cases hb : b = a
    · subst hb; exact ⟨u, upd_same⟩
    · exact ⟨o2, by rw [upd_ne hb]; exact e⟩, fun _ z => .inl z, fun _ z => .inl z⟩
  refine ⟨s, ⟨⟨fun b hb => ?_, o.base.sep, fun b hb => ?_⟩, o.nd, by rw [List.length_set]; exact o.len, fun j ob2 b f1 f2 => ?_⟩⟩
  · by_cases hba : b = a
    · subst hba; exact ⟨u, upd_same, m⟩
    · rw [upd_ne hba]; exact o.base.muo b hb
  · have hba : b ≠ a := fun z => by subst z; exact o.base.sep b hb ha
    rw [upd_ne hba]
    exact o.base.trk b hb
  · by_cases hj : n = j
    · subst hj
      rw [hn] at f2
      cases f2
      have hl : n < st.length := by
        have := (List.getElem?_eq_some_iff.mp f1).1
        rwa [List.length_set] at this
      rw [List.getElem?_set_self hl] at f1
      cases f1
      exact w _ _ _ s upd_same
    · rw [List.getElem?_set_ne hj] at f1
      have hba : b ≠ a := fun z => by
        subst z
        obtain ⟨l1, g1⟩ := List.getElem?_eq_some_iff.mp hn
        obtain ⟨l2, g2⟩ := List.getElem?_eq_some_iff.mp f2
        exact hj ((List.getElem_inj o.nd).mp (g1.trans g2.symm))
      exact (o.obs j ob2 b f1 f2).step o.base s (upd_ne hba)
end
end Iv

set_option Elab.async false
set_option linter.all false
set_option maxRecDepth 100000
set_option maxHeartbeats 4000000
/-! Iv, part B9: statements do what the small language says. -/
namespace Iv
open PySem PySem.Spec PyProof.Rows L2

section
variable {S : Sta} {K : PySem.W.Frag} {ca fa : Nat → Addr} {C : Calls} {wf : Nat} {N : List Str} {sc : Scope}
variable {φ0 φ φ' : List Addr} {F0 F F' : Addr → Prop} {H0 H H' : Hp} {st st' : Sto} {σ σ' : L2.St} {env env' : Env}
theorem Keeps.refl : Keeps K φ F H φ F H := fun _ _ h => h
theorem Keeps.trans {φ'' : List Addr} {F'' : Addr → Prop} {H'' : Hp} (a : Keeps K φ F H φ' F' H') (b : Keeps K φ' F' H' φ'' F'' H'') : Keeps K φ F H φ'' F'' H'' := fun d v h => b d v (a d v h)
theorem Step.keeps (b : Base φ F H) (s : Step φ F H φ' F' H') : Keeps K φ F H φ' F' H' := fun d v h => Rep.step b s d v h
theorem Off.keeps {a : Addr} (f : Off φ F a H H') : Keeps K φ F H φ F H' := fun d v h => Rep.off f d v h
theorem Keeps.reps (k : Keeps K φ F H φ' F' H') : ∀ {ds : List D} {vs : List V}, Reps K φ F H ds vs → Reps K φ' F' H' ds vs
  | [], _, h => h
  | d :: ds, _, h => by
    obtain ⟨v, r, e, q, t⟩ := h
    exact ⟨v, r, e, k d v q, Keeps.reps k t⟩
/-! ### targets -/
def tG (K : PySem.W.Frag) (ca : Nat → Addr) (C : Calls) (t : T) : TG := fun v σ H Q => ∃ φ0 F0 H0 φ F env st d env' st', SInv K ca φ0 F0 H0 φ F H σ env st ∧ Rep K φ F H d v ∧ bind C t d env st = some (env', st') ∧
  ∀ φ1 F1 H1 σ1, SInv K ca φ0 F0 H0 φ1 F1 H1 σ1 env' st' → Keeps K φ F H φ1 F1 H1 → Q σ1 H1
def tGs (K : PySem.W.Frag) (ca : Nat → Addr) (C : Calls) (ts : Ts) : TGs := fun vs σ H Q => ∃ φ0 F0 H0 φ F env st ds env' st', SInv K ca φ0 F0 H0 φ F H σ env st ∧ Reps K φ F H ds vs ∧ binds C ts ds env st = some (env', st') ∧
  ∀ φ1 F1 H1 σ1, SInv K ca φ0 F0 H0 φ1 F1 H1 σ1 env' st' → Keeps K φ F H φ1 F1 H1 → Q σ1 H1
theorem ixN_len {n m : Nat} {i : Int} {j : Nat} (h : ixN n i = some j) (e : n = m) : ixN m i = some j := e ▸ h
/-- an object of the store takes an item -/
theorem setO_ok (so : StOk K ca φ F H st) {o k d : D} {x y v : V} (ho : Rep K φ F H o x) (hk : Rep K φ F H k y) (hd : Rep K φ F H d v) (e : setO st o k d = some st') :
    ∃ Hn, rSetL x y v H (fun H' => H' = Hn) ∧ Step φ F H φ F Hn ∧ StOk K ca φ F Hn st' := by
  unfold setO at e
  split at e
  · rename_i n i
    split at e
    · rename_i xs hn
      simp only [Option.map_eq_some_iff] at e
      obtain ⟨j, e1, rfl⟩ := e
      obtain ⟨a, rfl, ha⟩ := ho
      cases (show y = _ from hk)
      obtain ⟨vs, q, r⟩ := so.obs _ _ a hn ha
      obtain ⟨s, o2⟩ := upd_obj (ob := .lst (xs.set j d)) so ha (u := .lst (vs.set j v)) rfl fun H' φ' F' s e => ⟨_, e, Reps.step so.base s _ _ (r.set j hd)⟩
      exact ⟨_, ⟨a, vs, i, j, rfl, rfl, q, ixN_len e1 r.length.symm, rfl⟩, s, o2⟩
    · cases e
  · cases e
theorem assignSub {o i : Expr} {pos : Pos} {env : PySem.Env} (h : plainX i = true) : ∀ v, assign (.Subscript o i pos) env v = (do
      let ov ← holding [v] (eval o env)
      let iv ← holding [v, ov] (eval i env)
      standAt pos
      holding [v, ov, iv] (setItem ov iv v)
      release [v, ov, iv] []) := by
  intro v
  cases i <;> first | rfl | (cases h)
mutual
theorem sndG : ∀ (t : T) {X : Cx} (x : Expr), XOk S K ca fa C N sc (fun _ => true) X → ckT S N sc (fun _ => true) t x = true → PG X x (tG K ca C t)
  | .nm i, X, x, hx, h => by
    refine PG_w (pgNm hx h) fun v σ H Q ⟨φ0, F0, H0, φ, F, env, st, d, env', st', si, rd, e, k⟩ => ?_
    simp only [bind] at e
    split at e
    · cases e
      exact k φ F H _ (si.set rd (by assumption)) Keeps.refl
    · cases e
  | .ix o kk, X, x, hx, h => by
    unfold ckT at h
    split at h
    · rename_i l m pos
      simp only [Bool.and_eq_true] at h
      obtain ⟨ho, hk⟩ := h
      have pk2 := pe_D (sndE kk m hx hk).1
      by_cases hv : ∃ s, o = .var s
      · obtain ⟨s, rfl⟩ := hv
        have hn : ∃ y pos, l = .Name y pos ∧ nmB N sc s y = true := by cases l <;> simp_all [ckE]
        obtain ⟨y, pos2, rfl, hn⟩ := hn
        refine PG_w (pg_sub (nmB_ok hx hn) pk2 set_list (assignSub (plainX_of hk))) fun v σ H Q ⟨φ0, F0, H0, φ, F, env, st, d, env', st', si, rd, e, k⟩ => ?_
        simp only [bind] at e
        split at e
        · -- the name holds an object of the store
          rename_i ov eo
          simp only [Option.bind_eq_some_iff, Option.map_eq_some_iff, Prod.mk.injEq] at e
          obtain ⟨p, e1, st2, e2, rfl, rfl⟩ := e
          obtain ⟨vo, es, ro⟩ := si.he.at_ s _ eo
          refine ⟨vo, es, φ, F, env, st, p.1, p.2, si.so, si.he, e1, fun φ1 F1 H1 s1 o1 w rw_ => ?_⟩
          obtain ⟨Hn, q, s2, o2⟩ := setO_ok o1 (Rep.step si.so.base s1 _ _ ro) rw_ (Rep.step si.so.base s1 _ _ rd) e2
          obtain ⟨a1, a2, a3, a4, a5, a6, a7, a8, a9⟩ := q
          exact ⟨a1, a2, a3, a4, a5, a6, a7, a8, a9 ▸ k φ1 F1 Hn σ (si.later (s1.trans s2) o2) ((s1.keeps si.so.base).trans (s2.keeps o1.base))⟩
        · -- the name holds a list of its own
          rename_i r nv er
          simp only [Option.bind_eq_some_iff, Option.map_eq_some_iff, Prod.mk.injEq] at e
          obtain ⟨p, e1, r', e2, rfl, rfl⟩ := e
          have hown : r.own = true := by
            cases r with
            | val d => exact absurd rfl (nv d)
            | lst xs => rfl
            | dct t ks => rfl
          obtain ⟨a, u, es, hu, rv, nf, np, h0⟩ := si.ownAt er hown
          refine ⟨_, es, φ, F, env, st, p.1, p.2, si.so, si.he, e1, fun φ1 F1 H1 s1 o1 w rw_ => ?_⟩
          have si1 := si.later s1 o1
          have rv1 := RvRep.step si.so.base s1 _ _ rv
          have rd1 := Rep.step si.so.base s1 _ _ rd
          unfold setV at e2
          split at e2
          · rename_i xs i epd
            rw [epd] at rw_
            cases (show w = _ from rw_)
            simp only [Option.map_eq_some_iff] at e2
            obtain ⟨j, e3, rfl⟩ := e2
            obtain ⟨a', vs, ea, q, rr, nf1, np1⟩ := rv1
            cases ea
            have off : Off φ1 F1 a H1 (upd H1 a (.lst (vs.set j v))) := ⟨fun b hb => upd_ne hb, ⟨_, q, (fun _ _ z => nomatch z), (fun _ z => nomatch z)⟩, ⟨_, upd_same⟩, nf1, np1⟩
            refine ⟨a, vs, i, j, rfl, rfl, q, ixN_len e3 rr.length.symm, ?_⟩
            refine k φ1 F1 _ σ (si1.change er hown es rfl off ⟨a, _, rfl, upd_same, Reps.off off _ _ (rr.set j rd1), nf1, np1⟩) ((s1.keeps si.so.base).trans off.keeps)
          · cases e2
        · cases e
      · refine PG_w (pg_sub (pe_D (sndE o l hx ho).1) pk2 set_list (assignSub (plainX_of hk))) fun v σ H Q ⟨φ0, F0, H0, φ, F, env, st, d, env', st', si, rd, e, k⟩ => ?_
        have e' : ((evE C o env st).bind fun p => (evE C kk env p.2).bind fun q => (setO q.2 p.1.d q.1.d d).map fun st => (env, st)) = some (env', st') := by
          cases o with
          | var s => exact absurd ⟨s, rfl⟩ hv
          | _ => simpa only [bind] using e
        simp only [Option.bind_eq_some_iff, Option.map_eq_some_iff, Prod.mk.injEq] at e'
        obtain ⟨p, e1, q, e2, st2, e3, rfl, rfl⟩ := e'
        refine ⟨φ, F, env, st, p.1, p.2, si.so, si.he, e1, fun φ1 F1 H1 s1 o1 x rx => ⟨φ1, F1, env, p.2, q.1, q.2, o1, si.he.step si.so.base s1, e2, fun φ2 F2 H2 s2 o2 y ry => ?_⟩⟩
        have s12 := s1.trans s2
        obtain ⟨Hn, qq, s3, o3⟩ := setO_ok o2 (Rep.step o1.base s2 _ _ rx) ry (Rep.step si.so.base s12 _ _ rd) e3
        obtain ⟨a1, a2, a3, a4, a5, a6, a7, a8, a9⟩ := qq
        exact ⟨a1, a2, a3, a4, a5, a6, a7, a8, a9 ▸ k φ2 F2 Hn σ (si.later (s12.trans s3) o3) ((s12.keeps si.so.base).trans (s3.keeps o2.base))⟩
    · cases h
  | .tup ts, X, x, hx, h => by
    unfold ckT at h
    split at h
    · obtain ⟨h1, h2⟩ := assignEachs (env := X.env) h
      refine PG_w (pg_tup hx.calm (sndGs ts _ hx h) h1 h2) fun v σ H Q ⟨φ0, F0, H0, φ, F, env, st, d, env', st', si, rd, e, k⟩ => ?_
      simp only [bind] at e
      split at e
      · obtain ⟨a, vs, rfl, q, r⟩ := rd
        exact ⟨a, vs, rfl, hx.k ▸ q, r.length.trans (binds_len ts _ e), φ0, F0, H0, φ, F, env, st, _, env', st', si, r, e, k⟩
      · cases e
    · cases h
theorem sndGs : ∀ (ts : Ts) {X : Cx} (xs : List Expr), XOk S K ca fa C N sc (fun _ => true) X → ckTs S N sc (fun _ => true) ts xs = true → PGs X xs (tGs K ca C ts)
  | .nil, X, xs, hx, h => by
    cases xs with
    | nil =>
      refine ⟨fun pins s σ H vs us Q I r ⟨φ0, F0, H0, φ, F, env, st, ds, env', st', si, rd, e, k⟩ => pgs_nil.run pins s σ H vs us Q I r ?_⟩
      cases ds with
      | nil =>
        simp only [binds, Option.some.injEq, Prod.mk.injEq] at e
        obtain ⟨rfl, rfl⟩ := e
        cases (show vs = [] from rd)
        exact ⟨rfl, k φ F H σ si Keeps.refl⟩
      | cons d ds => simp [binds] at e
    | cons x r => simp [ckTs] at h
  | .cons t ts, X, xs, hx, h => by
    cases xs with
    | nil => simp [ckTs] at h
    | cons x r =>
      simp only [ckTs, Bool.and_eq_true] at h
      refine ⟨fun pins s σ H vs us Q I rr ⟨φ0, F0, H0, φ, F, env, st, ds, env', st', si, rd, e, k⟩ => (pgs_cons (sndG t x hx h.1) (sndGs ts r hx h.2) (by rw [assignEach_plain (plainT h.1)]; rfl)).run pins s σ H vs us Q I rr ?_⟩
      cases ds with
      | nil => simp [binds] at e
      | cons d ds =>
        obtain ⟨v, vr, rfl, r1, r2⟩ := rd
        simp only [binds, Option.bind_eq_some_iff] at e
        obtain ⟨p, e1, e2⟩ := e
        refine ⟨v, vr, rfl, φ0, F0, H0, φ, F, env, st, d, p.1, p.2, si, r1, e1, fun φ1 F1 H1 σ1 si1 k1 => ?_⟩
        exact ⟨φ0, F0, H0, φ1, F1, p.1, p.2, ds, env', st', si1, k1.reps r2, e2, fun φ2 F2 H2 σ2 si2 k2 => k φ2 F2 H2 σ2 si2 (k1.trans k2)⟩
end
/-! ### the look of a statement -/
theorem swaps_no {v : Expr} {t : Option Expr} {l : Nat} {env : PySem.Env} (h : noComp v = true) : swapsWith v t l env = pure false := by
  cases v <;> first | rfl | (cases h)
theorem swStores {env : PySem.Env} {tg v : Expr} (he : env.scope = sc) (h : swNone sc tg v = true) : swappedStores [tg] v env = pure none := by
  unfold swappedStores
  cases tg with
  | Tuple ts k1 p1 =>
    cases v with
    | Tuple vs k2 p2 =>
      dsimp only
      unfold swNone at h
      dsimp only at h
      by_cases h1 : (!(ts.length == 2 || ts.length == 3) || vs.length != ts.length || env.blockKind != .function) = true
      · rw [if_pos h1] <;> rfl
      · rw [if_neg h1]
        have h1' : ((!(ts.length == 2 || ts.length == 3) || vs.length != ts.length)) = false := by
          cases q : (!(ts.length == 2 || ts.length == 3) || vs.length != ts.length) with
          | false => rfl
          | true => rw [q] at h1; simp at h1
        rw [h1', Bool.false_or, Bool.or_eq_true] at h
        split
        · rfl
        · rename_i h2
          rcases h with h | h
          · exact absurd h h2
          · split
            · rfl
            · rename_i h3
              unfold swNames at h
              rw [← he] at h
              exact absurd (by rw [Bool.or_eq_true]; exact .inl h) h3
    | _ => rfl
  | List es p => cases v <;> first | rfl | (cases h)
  | _ => cases v <;> rfl
end
end Iv

set_option Elab.async false
set_option linter.all false
set_option maxRecDepth 100000
set_option maxHeartbeats 4000000
/-! Iv, part B10: statements, all of them at once. -/
namespace Iv
open PySem PySem.Spec PyProof.Rows L2

structure SOk (S : Sta) (K : PySem.W.Frag) (ca fa : Nat → Addr) (C : Calls) (N : List Str) (sc : Scope) (X : Cx) : Prop where
  ok : XOk S K ca fa C N sc (fun _ => true) X
  xe : X.xe = fun _ _ => False
  kind : sc.kind = .function
section
variable {S : Sta} {K : PySem.W.Frag} {ca fa : Nat → Addr} {C : Calls} {wf : Nat} {N : List Str} {sc : Scope}
variable {φ0 φ φ' : List Addr} {F0 F F' : Addr → Prop} {H0 H H' : Hp} {st st' : Sto} {σ σ' : L2.St} {env env' : Env}
theorem SOk.pass {X : Cx} (h : SOk S K ca fa C N sc X) : PassesOwn (model X.prog X.w) X.A X.env X.xe := by
  rw [h.xe]
  exact PassesOwn.never
/-- name = [..] on one line -/
theorem psLc {X : Cx} (hx : SOk S K ca fa C N sc X) {i : Nat} {y : Str} {py spos : Pos} (hi : N[i]? = some y) {elt : Expr} {gs : List Comprehension} {scope : Scope} {pos : Pos} (hs : swSet sc y py (.ListComp elt gs scope pos) = true) :
    ∀ (e : E), ckE S N sc (fun _ => true) e (.ListComp elt gs scope pos) = true → PS X (.Assign [.Name y py] (.ListComp elt gs scope pos) spos) (fun D σ H => tE K ca C e σ H fun x H1 => D.nx (σ.set i (some x)) H1)
  | .pro e, h => by
    simp only [ckE, Bool.and_eq_true] at h
    refine PS_w (psLc hx hi hs e h.2) fun D σ H ⟨φ, F, env, st, r, st', so, he, ev, k⟩ => ?_
    simp only [evE, Option.bind_eq_some_iff] at ev
    obtain ⟨p, e1, e2⟩ := ev
    exact ⟨φ, F, env, st, p.1, p.2, so, he, e1, pro_ok so k e2⟩
  | .lc vs t it c e, h => by
    unfold ckE at h
    split at h
    · rename_i elt' tg iter ifs k scope' pos' eq
      cases eq
      simp only [Bool.and_eq_true, decide_eq_true_eq] at h
      obtain ⟨rfl, hb, hw, hit, ht, hc, he⟩ := h
      have bo : BlkOk X.N X.env.scope scope (ownOf N vs) := by rw [hx.ok.n, hx.ok.sc]; exact blkOk_by hb
      unfold swSet at hs
      simp only [Bool.and_eq_true, decide_eq_true_eq, Bool.not_eq_true'] at hs
      obtain ⟨h1, h2, h3⟩ := hs
      refine PS_w (ps_setLc (i := i) (g := gOf X.K t) hx.ok.calm (by rw [hx.ok.n]; exact hx.ok.nd) (by rw [hx.ok.n]; exact hi) (by rw [hx.ok.sc]; exact h1) (sw_true (by rw [hx.ok.sc]; exact hx.kind) (by rw [hx.ok.sc]; exact h1) h2 h3) (sndIt it true tg _ hx.ok hit) bo
        (fun s H c2 cl fp => pgN (hx.ok.blk s H scope cl c2 fp) t tg hw ht) (fun s H c2 cl fp => sndEt c _ (hx.ok.blk s H scope cl c2 fp) hc)
        (fun s H c2 cl fp => pe_D (sndE e _ (hx.ok.blk s H scope cl c2 fp) he).1) (foldedPlain (plainIt hit))) fun D σ H hh => ?_
      unfold tAsg
      rw [ownOf_snd]
      exact lc_ok hx.ok.k hw hh
    · cases h
  | .var _, h => by simp [ckE] at h
  | .con _, h => by simp [ckE] at h
  | .glo _ _, h => by simp [ckE] at h
  | .tup _, h => by simp [ckE] at h
  | .lst _, h => by simp [ckE] at h
  | .dic _, h => by simp [ckE] at h
  | .bop _ _ _, h => by simp [ckE] at h
  | .neg _, h => by simp [ckE] at h
  | .nt _, h => by simp [ckE] at h
  | .cmp _ _ _, h => by simp [ckE] at h
  | .chain _ _ _ _ _, h => by simp [ckE] at h
  | .and _ _, h => by simp [ckE] at h
  | .or _ _, h => by simp [ckE] at h
  | .ix _ _, h => by simp [ckE] at h
  | .sl _ _ _, h => by simp [ckE] at h
  | .call _ _, h => by simp [ckE] at h
  | .blt _ _, h => by simp [ckE] at h
  | .mth _ _ _, h => by simp [ckE] at h
  | .att _ _, h => by simp [ckE] at h
  | .met _ _ _ _, h => by simp [ckE] at h
  | .new _ _, h => by simp [ckE] at h
theorem noCompOf {e : E} {v : Expr} {fnc : Str → Bool} (h : ckE S N sc fnc e v = true) (n : ∀ elt gs s p, v ≠ .ListComp elt gs s p) : noComp v = true := by
  have hp := plainX_of h
  cases v <;> first
    | rfl
    | exact absurd rfl (n _ _ _ _)
    | (cases hp)
/-- name = e -/
theorem psAsg {X : Cx} (hx : SOk S K ca fa C N sc X) {i : Nat} {y : Str} {py spos : Pos} (hi : N[i]? = some y) (hl : locB sc (fun _ => true) y = true) {e : E} {v : Expr} (h : ckE S N sc (fun _ => true) e v = true) :
    PS X (.Assign [.Name y py] v spos) (fun D σ H => tE K ca C e σ H fun x H1 => D.nx (σ.set i (some x)) H1) := by
  obtain ⟨l, f⟩ := locB_ok hx.ok hl
  have plain : swapsWith v (some (.Name y py)) spos.line X.env = pure false → PS X (.Assign [.Name y py] v spos) (fun D σ H => tE K ca C e σ H fun x H1 => D.nx (σ.set i (some x)) H1) := fun hs =>
    ps_set (i := i) (by rw [hx.ok.n]; exact hx.ok.nd) (by rw [hx.ok.n]; exact hi) l (sndE e v hx.ok h).1 hs f
  by_cases hv : ∃ elt gs s p, v = .ListComp elt gs s p
  · obtain ⟨elt, gs, s, p, rfl⟩ := hv
    cases hs : swSet sc y py (.ListComp elt gs s p) with
    | true => exact psLc hx hi hs e h
    | false =>
      refine plain ?_
      show (pure (X.env.blockKind == .function && X.env.kindOf y == some .local && py.line == p.line && !(s.names.any fun (n, k) => n == y && (k == .local || k == .cell))) : Sem Bool) = pure false
      have e1 : (X.env.kindOf y == some .local) = decide (sc.names.lookup y = some .local) := by
        rw [show X.env.kindOf y = sc.names.lookup y by rw [← hx.ok.sc]; rfl]
        by_cases q : sc.names.lookup y = some .local
        · rw [q]; rfl
        · rw [decide_eq_false q]
          exact beq_eq_false_iff_ne.mpr q
      unfold swSet at hs
      rw [e1]
      congr 1
      cases q1 : decide (sc.names.lookup y = some .local) <;> cases q2 : (py.line == p.line) <;> cases q3 : (s.names.any fun (n, k) => n == y && (k == .local || k == .cell)) <;> simp_all
  · exact plain (swaps_no (noCompOf h fun elt gs s p z => hv ⟨elt, gs, s, p, z⟩))

theorem psRet {X : Cx} {e : E} {v : Expr} {pos : Pos} (hp : PE X v (tE K ca C e)) : PS X (.Return (some v) pos) (tS_ K ca C wf (.ret e)) := by
  refine PS_w (ps_ret hp) fun D σ H ⟨φ0, F0, H0, φ, F, env, st, fl, env', st', si, ev, k⟩ => ?_
  simp only [exS, Option.map_eq_some_iff, Prod.mk.injEq] at ev
  obtain ⟨p, e1, rfl, rfl, rfl⟩ := ev
  exact ⟨φ, F, env, st, p.1, p.2, si.so, si.he, e1, Want.later si.step k⟩
/-! ### loops -/
theorem forOk {t : T} {it : It} {b : Ss} {D : Ends} {X : Cx} (h : tS_ K ca C wf (.for_ t it b) D σ H) : tFor (tIt K ca C false it) (tG K ca C t) (tSs_ K ca C wf b) D σ H := by
  obtain ⟨φ0, F0, H0, φ, F, env, st, fl, env', st', si, ev, k⟩ := h
  simp only [exS, Option.bind_eq_some_iff] at ev
  obtain ⟨⟨src, st1⟩, e1, e2⟩ := ev
  dsimp only at e2
  refine ⟨φ, F, env, st, src, st1, si.so, si.he, e1, fun φ1 F1 H1 s1 o1 J hJ => ?_⟩
  generalize hf : (fun x env st => (bind C t x env st).bind fun q => exSs C wf b q.1 q.2) = f at e2
  refine ⟨fun i m σi Hi => ∃ φi Fi envi sti, m = src.xs.length - i ∧ i ≤ src.xs.length ∧ SInv K ca φ0 F0 H0 φi Fi Hi σi envi sti ∧ Keeps K φ1 F1 H1 φi Fi Hi ∧ forGo f src.ok (src.xs.drop i) envi sti = some (fl, env', st'), ⟨src.xs.length, ?_⟩, ?_⟩
  · exact ⟨φ1, F1, env, st1, by simp, Nat.zero_le _, si.later s1 o1, Keeps.refl, by simpa using e2⟩
  · rintro i m σi Hi ⟨φi, Fi, envi, sti, rfl, hi, sii, kp, e3⟩
    have ok : src.ok sti = true := by
      cases hd : src.xs.drop i with
      | nil =>
        rw [hd] at e3
        simp only [forGo] at e3
        split at e3
        · assumption
        · cases e3
      | cons x r =>
        rw [hd] at e3
        simp only [forGo] at e3
        split at e3
        · assumption
        · cases e3
    obtain ⟨go, stop⟩ := hJ φi Fi Hi sti kp sii.so ok i
    by_cases hlt : i < src.xs.length
    · right
      have hxi : src.xs[i]? = some src.xs[i] := List.getElem?_eq_getElem hlt
      obtain ⟨g1, g2⟩ := go _ hxi
      rw [List.drop_eq_getElem_cons hlt] at e3
      simp only [forGo, if_pos ok, Option.bind_eq_some_iff] at e3
      obtain ⟨⟨fb, envb, stb⟩, e4, e5⟩ := e3
      refine ⟨g1, fun σ5 H5 => ∃ φ5 F5 env5 st5, i + 1 ≤ src.xs.length ∧ SInv K ca φ0 F0 H0 φ5 F5 H5 σ5 env5 st5 ∧ Keeps K φ1 F1 H1 φ5 F5 H5 ∧ forGo f src.ok (src.xs.drop (i + 1)) env5 st5 = some (fl, env', st'), ?_, ?_⟩
      · rintro σ5 H5 ⟨φ5, F5, env5, st5, h1, h2, h3, h4⟩
        exact ⟨src.xs.length - (i + 1), by omega, φ5, F5, env5, st5, rfl, h1, h2, h3, h4⟩
      · intro x Hx yx
        obtain ⟨Fx, sx, ox, rx⟩ := g2 x Hx yx
        rw [← hf] at e4
        simp only [Option.bind_eq_some_iff] at e4
        obtain ⟨⟨env1, st5⟩, e6, e7⟩ := e4
        have six := sii.later sx ox
        have kx := kp.trans (sx.keeps sii.so.base)
        refine ⟨φ0, F0, H0, φi, Fx, envi, sti, _, env1, st5, six, rx, e6, fun φ2 F2 H2 σ2 si2 k2 => ?_⟩
        have kx2 := kx.trans k2
        refine ⟨φ0, F0, H0, φ2, F2, env1, st5, fb, envb, stb, si2, e7, ?_⟩
        have again : forGo f src.ok (src.xs.drop (i + 1)) envb stb = some (fl, env', st') → ∀ φ' F' H' σ', SInv K ca φ0 F0 H0 φ' F' H' σ' envb stb → Keeps K φ2 F2 H2 φ' F' H' →
            ∃ φ5 F5 env5 st5, i + 1 ≤ src.xs.length ∧ SInv K ca φ0 F0 H0 φ5 F5 H' σ' env5 st5 ∧ Keeps K φ1 F1 H1 φ5 F5 H' ∧ forGo f src.ok (src.xs.drop (i + 1)) env5 st5 = some (fl, env', st') :=
          fun e φ' F' H' σ' s' k' => ⟨φ', F', envb, stb, hlt, s', kx2.trans k', e⟩
        cases fb with
        | nx => exact again e5
        | ct => exact again e5
        | bk =>
          simp only [Option.some.injEq, Prod.mk.injEq] at e5
          obtain ⟨rfl, rfl, rfl⟩ := e5
          exact fun φ' F' H' σ' s' k' => k φ' F' H' σ' s' (((s1.keeps si.so.base).trans kx2).trans k')
        | rt v =>
          simp only [Option.some.injEq, Prod.mk.injEq] at e5
          obtain ⟨rfl, rfl, rfl⟩ := e5
          exact k
    · left
      have hi' : i = src.xs.length := by omega
      subst hi'
      refine ⟨stop (Nat.le_refl _), ?_⟩
      simp only [List.drop_length, forGo, if_pos ok, Option.some.injEq, Prod.mk.injEq] at e3
      obtain ⟨rfl, rfl, rfl⟩ := e3
      exact k φi Fi Hi σi sii ((s1.keeps si.so.base).trans kp)
theorem whlOk {c : E} {b : Ss} {D : Ends} (h : tS_ K ca C wf (.whl c b) D σ H) : tWhile (tB_ K ca C c) (tSs_ K ca C wf b) D σ H := by
  obtain ⟨φ0, F0, H0, φ, F, env, st, fl, env', st', si, ev, k⟩ := h
  simp only [exS] at ev
  refine ⟨fun m σi Hi => ∃ φi Fi envi sti, SInv K ca φ0 F0 H0 φi Fi Hi σi envi sti ∧ Keeps K φ F H φi Fi Hi ∧ whlGo (evT C c) (exSs C wf b) m envi sti = some (fl, env', st'), ⟨wf, φ, F, env, st, si, Keeps.refl, ev⟩, ?_⟩
  rintro m σi Hi ⟨φi, Fi, envi, sti, sii, kp, e1⟩
  cases m with
  | zero => cases e1
  | succ m =>
    simp only [whlGo, Option.bind_eq_some_iff] at e1
    obtain ⟨⟨t, st1⟩, e2, e3⟩ := e1
    refine ⟨φi, Fi, envi, sti, t, st1, sii.so, sii.he, e2, fun φ1 F1 H1 s1 o1 => ?_⟩
    have si1 := sii.later s1 o1
    have k1 := kp.trans (s1.keeps sii.so.base)
    cases t with
    | false =>
      simp only [Bool.false_eq_true, if_false, Option.some.injEq, Prod.mk.injEq] at e3
      obtain ⟨rfl, rfl, rfl⟩ := e3
      exact iteF (k φ1 F1 H1 σi si1 k1)
    | true =>
      simp only [if_true, Option.bind_eq_some_iff] at e3
      obtain ⟨⟨fb, envb, stb⟩, e4, e5⟩ := e3
      refine iteT ⟨fun σ5 H5 => ∃ φ5 F5 env5 st5, SInv K ca φ0 F0 H0 φ5 F5 H5 σ5 env5 st5 ∧ Keeps K φ F H φ5 F5 H5 ∧ whlGo (evT C c) (exSs C wf b) m env5 st5 = some (fl, env', st'), fun σ5 H5 h5 => ⟨m, Nat.lt_succ_self m, h5⟩, ?_⟩
      refine ⟨φ0, F0, H0, φ1, F1, envi, st1, fb, envb, stb, si1, e4, ?_⟩
      cases fb with
      | nx => exact fun φ' F' H' σ' s' k' => ⟨φ', F', envb, stb, s', k1.trans k', e5⟩
      | ct => exact fun φ' F' H' σ' s' k' => ⟨φ', F', envb, stb, s', k1.trans k', e5⟩
      | bk =>
        simp only [Option.some.injEq, Prod.mk.injEq] at e5
        obtain ⟨rfl, rfl, rfl⟩ := e5
        exact fun φ' F' H' σ' s' k' => k φ' F' H' σ' s' (k1.trans k')
      | rt v =>
        simp only [Option.some.injEq, Prod.mk.injEq] at e5
        obtain ⟨rfl, rfl, rfl⟩ := e5
        exact k
/-! ### all statements at once -/
mutual
theorem sndS : ∀ (s : Iv.S) {X : Cx} (x : Stmt), SOk S K ca fa C N sc X → ckS S N sc s x = true → PS X x (tS_ K ca C wf s)
  | .asg i e, X, x, hx, h => by
    unfold ckS at h
    split at h
    · simp only [Bool.and_eq_true, decide_eq_true_eq] at h
      obtain ⟨h1, h2, h3⟩ := h
      refine PS_w (psAsg hx h1 h2 h3) fun D σ H ⟨φ0, F0, H0, φ, F, env, st, fl, env', st', si, ev, k⟩ => ?_
      simp only [exS, Option.bind_eq_some_iff] at ev
      obtain ⟨p, e1, e2⟩ := ev
      split at e2
      · rename_i hi
        simp only [Option.some.injEq, Prod.mk.injEq] at e2
        obtain ⟨rfl, rfl, rfl⟩ := e2
        exact tE_d si.so si.he e1 fun φ1 F1 H1 s1 o1 v rv => k φ1 F1 H1 _ ((si.later s1 o1).set rv hi) (s1.keeps si.so.base)
      · cases e2
    · cases h
  | .asgO i e, X, x, hx, h => by
    unfold ckS at h
    split at h
    · simp only [Bool.and_eq_true, decide_eq_true_eq] at h
      obtain ⟨h1, h2, h3⟩ := h
      refine PS_w (psAsg hx h1 h2 h3) fun D σ H ⟨φ0, F0, H0, φ, F, env, st, fl, env', st', si, ev, k⟩ => ?_
      simp only [exS, Option.bind_eq_some_iff] at ev
      obtain ⟨p, e1, e2⟩ := ev
      split at e2
      · rename_i hi
        simp only [Option.some.injEq, Prod.mk.injEq] at e2
        obtain ⟨rfl, rfl, rfl⟩ := e2
        refine ⟨φ, F, env, st, p.1, p.2, si.so, si.he, e1, fun φ1 F1 H1 v s1 o1 rv fr => k φ1 F1 H1 _ ((si.later s1 o1).setO rv hi (fun o a ea => si.step.none (fr o a ea)) fun o j rj a hj ej oj ea z => ?_) (s1.keeps si.so.base)⟩
        obtain ⟨b, u, eb, hu, _⟩ := si.ownAt ej oj
        rw [eb] at ea
        cases ea
        have := fr o _ z
        rw [hu] at this
        cases this
      · cases e2
    · cases h
  | .tgt t e, X, x, hx, h => by
    unfold ckS at h
    split at h
    · simp only [Bool.and_eq_true] at h
      obtain ⟨h1, h2, h3, h4⟩ := h
      refine PS_w (ps_asg (pe_D (sndE e _ hx.ok h4).1) (sndG t _ hx.ok h3) (swaps_no h2) (swStores hx.ok.sc h1) (by rw [assignEach_plain (plainT h3)]; rfl)) fun D σ H ⟨φ0, F0, H0, φ, F, env, st, fl, env', st', si, ev, k⟩ => ?_
      simp only [exS, Option.bind_eq_some_iff, Option.map_eq_some_iff, Prod.mk.injEq] at ev
      obtain ⟨p, e1, q, e2, rfl, rfl, rfl⟩ := ev
      refine ⟨φ, F, env, st, p.1, p.2, si.so, si.he, e1, fun φ1 F1 H1 s1 o1 v rv => ?_⟩
      exact ⟨φ0, F0, H0, φ1, F1, env, p.2, p.1.d, q.1, q.2, si.later s1 o1, rv, e2, fun φ2 F2 H2 σ2 si2 k2 => k φ2 F2 H2 σ2 si2 ((s1.keeps si.so.base).trans k2)⟩
    · cases h
  | .par _ _ _ _, X, x, hx, h => by simp [ckS] at h
  | .satt _ _ _, X, x, hx, h => by simp [ckS] at h
  | .ifs c a b, X, x, hx, h => by
    unfold ckS at h
    split at h
    · simp only [Bool.and_eq_true] at h
      obtain ⟨h1, h2, h3⟩ := h
      refine PS_w (ps_if (sndE c _ hx.ok h1).2.2 (sndSs a _ hx h2) (sndSs b _ hx h3)) fun D σ H ⟨φ0, F0, H0, φ, F, env, st, fl, env', st', si, ev, k⟩ => ?_
      simp only [exS, Option.bind_eq_some_iff] at ev
      obtain ⟨⟨t, st1⟩, e1, e2⟩ := ev
      refine ⟨φ, F, env, st, t, st1, si.so, si.he, e1, fun φ1 F1 H1 s1 o1 => ?_⟩
      have si1 := si.later s1 o1
      have kk : SEnd K ca φ0 F0 H0 φ1 F1 H1 D fl env' st' := by
        cases fl with
        | rt r => exact k
        | nx => exact fun φ' F' H' σ' s' k' => k φ' F' H' σ' s' ((s1.keeps si.so.base).trans k')
        | bk => exact fun φ' F' H' σ' s' k' => k φ' F' H' σ' s' ((s1.keeps si.so.base).trans k')
        | ct => exact fun φ' F' H' σ' s' k' => k φ' F' H' σ' s' ((s1.keeps si.so.base).trans k')
      cases t with
      | true =>
        simp only [if_true] at e2
        exact iteT ⟨φ0, F0, H0, φ1, F1, env, st1, fl, env', st', si1, e2, kk⟩
      | false =>
        simp only [Bool.false_eq_true, if_false] at e2
        exact iteF ⟨φ0, F0, H0, φ1, F1, env, st1, fl, env', st', si1, e2, kk⟩
    · cases h
  | .whl c b, X, x, hx, h => by
    unfold ckS at h
    split at h
    · simp only [Bool.and_eq_true] at h
      exact PS_w (ps_while hx.pass (sndE c _ hx.ok h.1).2.2 (sndSs b _ hx h.2)) fun D σ H hh => whlOk hh
    · cases h
  | .for_ t it b, X, x, hx, h => by
    unfold ckS at h
    split at h
    · simp only [Bool.and_eq_true] at h
      obtain ⟨h1, h2, h3⟩ := h
      exact PS_w (ps_for hx.pass hx.ok.calm (sndIt it false _ _ hx.ok h2) (sndG t _ hx.ok h1) (sndSs b _ hx h3) (foldedPlain (plainIt h2))) fun D σ H hh => forOk (X := X) hh
    · cases h
  | .ret e, X, x, hx, h => by
    unfold ckS at h
    split at h
    · exact psRet (sndE e _ hx.ok h).1
    · cases h
  | .retV i, X, x, hx, h => by
    unfold ckS at h
    split at h
    · refine PS_w (ps_ret (nmB_ok hx.ok h)) fun D σ H ⟨φ0, F0, H0, φ, F, env, st, fl, env', st', si, ev, k⟩ => ?_
      simp only [exS] at ev
      split at ev
      · rename_i r er
        simp only [Option.some.injEq, Prod.mk.injEq] at ev
        obtain ⟨rfl, rfl, rfl⟩ := ev
        obtain ⟨v, e1, rv⟩ := si.he.at_ i r er
        exact ⟨v, e1, k φ F H v si.step si.so rv fun o a ea => si.own i r a er o (ea ▸ e1)⟩
      · cases ev
    · cases h
  | .retN, X, x, hx, h => by
    unfold ckS at h
    split at h
    · refine PS_w ps_retN fun D σ H ⟨φ0, F0, H0, φ, F, env, st, fl, env', st', si, ev, k⟩ => ?_
      simp only [exS, Option.some.injEq, Prod.mk.injEq] at ev
      obtain ⟨rfl, rfl, rfl⟩ := ev
      exact k φ F H _ si.step si.so rfl (fun o => nomatch o)
    · cases h
  | .ex e, X, x, hx, h => by
    unfold ckS at h
    split at h
    · simp only [Bool.and_eq_true] at h
      refine PS_w (ps_expr (pe_D (sndE e _ hx.ok h.2).1) (swaps_no h.1)) fun D σ H ⟨φ0, F0, H0, φ, F, env, st, fl, env', st', si, ev, k⟩ => ?_
      simp only [exS, Option.map_eq_some_iff, Prod.mk.injEq] at ev
      obtain ⟨p, e1, rfl, rfl, rfl⟩ := ev
      exact ⟨φ, F, env, st, p.1, p.2, si.so, si.he, e1, fun φ1 F1 H1 s1 o1 v rv => k φ1 F1 H1 σ (si.later s1 o1) (s1.keeps si.so.base)⟩
    · cases h
  | .app o v, X, x, hx, h => by
    unfold ckS at h
    split at h
    · rename_i i y p1 g p2 w p3 p4
      simp only [Bool.and_eq_true, decide_eq_true_eq] at h
      obtain ⟨rfl, h1, h2, h3⟩ := h
      have hs := starEach_plain (xs := []) (env := X.env) (plainX_of h3)
      refine PS_w (ps_expr (pe_bm PySem.F.plainAttrs_list PySem.F.slot_list_append PySem.F.type_list_append mt_append (nmB_ok hx.ok h2) (pa_cons (pe_D (sndE v w hx.ok h3).1) pa_nil hs) rfl (by rw [hs]; rfl) h1 hs rfl)) fun D σ H ⟨φ0, F0, H0, φ, F, env, st, fl, env', st', si, ev, k⟩ => ?_
      simp only [exS] at ev
      split at ev
      · rename_i xs ex
        simp only [Option.bind_eq_some_iff] at ev
        obtain ⟨p, e1, e2⟩ := ev
        split at e2
        · rename_i hl
          simp only [Option.some.injEq, Prod.mk.injEq] at e2
          obtain ⟨rfl, rfl, rfl⟩ := e2
          obtain ⟨a, u, es, hu, rv, nf, np, h0⟩ := si.ownAt ex rfl
          obtain ⟨a', vs, ea, q, rr, _, _⟩ := id rv
          cases ea
          refine ⟨_, es, .inl ⟨rfl, vs, SqL.of q⟩, φ, F, env, st, p.1, p.2, si.so, si.he, e1, fun φ1 F1 H1 s1 o1 z rz => ?_⟩
          have si1 := si.later s1 o1
          obtain ⟨a', vs1, ea, q1, rr1, nf1, np1⟩ := RvRep.step si.so.base s1 _ _ rv
          cases ea
          have off : Off φ1 F1 a H1 (upd H1 a (.lst (vs1 ++ [z]))) := ⟨fun b hb => upd_ne hb, ⟨_, q1, (fun _ _ z => nomatch z), (fun _ z => nomatch z)⟩, ⟨_, upd_same⟩, nf1, np1⟩
          refine ⟨a, vs1, z, rfl, rfl, q1, by rw [rr1.length, sizeLine_eq]; omega, ?_⟩
          exact k φ1 F1 _ σ (si1.change ex rfl es rfl off ⟨a, _, rfl, upd_same, Reps.off off _ _ (rr1.snoc rz), nf1, np1⟩) ((s1.keeps si.so.base).trans off.keeps)
        · cases e2
      · rename_i n en
        split at ev
        · rename_i xs0 exs0
          simp only [Option.bind_eq_some_iff] at ev
          obtain ⟨p, e1, e2⟩ := ev
          split at e2
          · rename_i xs exs
            split at e2
            · rename_i hl
              simp only [Option.some.injEq, Prod.mk.injEq] at e2
              obtain ⟨rfl, rfl, rfl⟩ := e2
              obtain ⟨vo, es, a, rfl, ha⟩ := si.he.at_ i _ en
              obtain ⟨vs0, q0, _⟩ := si.so.obs _ _ a exs0 ha
              refine ⟨_, es, .inl ⟨rfl, vs0, SqL.of q0⟩, φ, F, env, st, p.1, p.2, si.so, si.he, e1, fun φ1 F1 H1 s1 o1 z rz => ?_⟩
              have ha1 := s1.pre _ _ ha
              obtain ⟨vs1, q1, rr1⟩ := o1.obs _ _ a exs ha1
              obtain ⟨s2, o2⟩ := upd_obj (ob := .lst (xs ++ [p.1.d])) o1 ha1 (u := .lst (vs1 ++ [z])) rfl fun H' φ' F' s e => ⟨_, e, Reps.step o1.base s _ _ (rr1.snoc rz)⟩
              refine ⟨a, vs1, z, rfl, rfl, q1, by rw [rr1.length, sizeLine_eq]; omega, ?_⟩
              exact k φ1 F1 _ σ (si.later (s1.trans s2) o2) ((s1.keeps si.so.base).trans (s2.keeps o1.base))
            · cases e2
          · cases e2
        · cases ev
      · cases ev
    · cases h
  | .clr _, X, x, hx, h => by simp [ckS] at h
  | .share _, X, x, hx, h => by simp [ckS] at h
  | .pass, X, x, hx, h => by
    unfold ckS at h
    split at h
    · refine PS_w ps_pass fun D σ H ⟨φ0, F0, H0, φ, F, env, st, fl, env', st', si, ev, k⟩ => ?_
      simp only [exS, Option.some.injEq, Prod.mk.injEq] at ev
      obtain ⟨rfl, rfl, rfl⟩ := ev
      exact k φ F H σ si Keeps.refl
    · cases h
  | .brk, X, x, hx, h => by
    unfold ckS at h
    split at h
    · refine PS_w ps_break fun D σ H ⟨φ0, F0, H0, φ, F, env, st, fl, env', st', si, ev, k⟩ => ?_
      simp only [exS, Option.some.injEq, Prod.mk.injEq] at ev
      obtain ⟨rfl, rfl, rfl⟩ := ev
      exact k φ F H σ si Keeps.refl
    · cases h
  | .cnt, X, x, hx, h => by
    unfold ckS at h
    split at h
    · refine PS_w ps_continue fun D σ H ⟨φ0, F0, H0, φ, F, env, st, fl, env', st', si, ev, k⟩ => ?_
      simp only [exS, Option.some.injEq, Prod.mk.injEq] at ev
      obtain ⟨rfl, rfl, rfl⟩ := ev
      exact k φ F H σ si Keeps.refl
    · cases h
theorem sndSs : ∀ (ss : Ss) {X : Cx} (xs : List Stmt), SOk S K ca fa C N sc X → ckSs S N sc ss xs = true → PSs X xs (tSs_ K ca C wf ss)
  | .nil, X, xs, hx, h => by
    cases xs with
    | nil =>
      refine PSs_w pss_nil fun D σ H ⟨φ0, F0, H0, φ, F, env, st, fl, env', st', si, ev, k⟩ => ?_
      simp only [exSs, Option.some.injEq, Prod.mk.injEq] at ev
      obtain ⟨rfl, rfl, rfl⟩ := ev
      exact k φ F H σ si Keeps.refl
    | cons x r => simp [ckSs] at h
  | .cons s r, X, xs, hx, h => by
    by_cases hs : ∃ i, s = .share i
    · obtain ⟨i, rfl⟩ := hs
      have h2 : ckSs S N sc r xs = true := by simpa [ckSs] using h
      refine PSs_w (sndSs r xs hx h2) fun D σ H ⟨φ0, F0, H0, φ, F, env, st, fl, env', st', si, ev, k⟩ => ?_
      simp only [exSs, exS, Option.bind_eq_some_iff] at ev
      obtain ⟨p, e1, e2⟩ := ev
      split at e1
      · rename_i rv er
        cases e1
        obtain ⟨F', mo, si'⟩ := si.share er
        have kk : Keeps K φ F H φ F' H := fun d v h => Rep.more mo (fun _ _ z => z) d v h
        refine ⟨φ0, F0, H0, φ, F', _, st, fl, env', st', si', e2, ?_⟩
        cases fl with
        | rt r => exact k
        | nx => exact fun φ' F' H' σ' s' k' => k φ' F' H' σ' s' (kk.trans k')
        | bk => exact fun φ' F' H' σ' s' k' => k φ' F' H' σ' s' (kk.trans k')
        | ct => exact fun φ' F' H' σ' s' k' => k φ' F' H' σ' s' (kk.trans k')
      · cases e1
    · have h2 : ∃ x ys, xs = x :: ys ∧ ckS S N sc s x = true ∧ ckSs S N sc r ys = true := by
        cases xs with
        | nil => cases s <;> simp_all [ckSs]
        | cons x ys => exact ⟨x, ys, rfl, by cases s <;> simp_all [ckSs], by cases s <;> simp_all [ckSs]⟩
      obtain ⟨x, ys, rfl, hx1, hx2⟩ := h2
      refine PSs_w (pss_cons (sndS s x hx hx1) (sndSs r ys hx hx2)) fun D σ H ⟨φ0, F0, H0, φ, F, env, st, fl, env', st', si, ev, k⟩ => ?_
      simp only [exSs, Option.bind_eq_some_iff] at ev
      obtain ⟨⟨fl1, env1, st1⟩, e1, e2⟩ := ev
      refine ⟨φ0, F0, H0, φ, F, env, st, fl1, env1, st1, si, e1, ?_⟩
      cases fl1 with
      | nx =>
        intro φ' F' H' σ' s' k'
        refine ⟨φ0, F0, H0, φ', F', env1, st1, fl, env', st', s', e2, ?_⟩
        cases fl with
        | rt r => exact k
        | nx => exact fun φ2 F2 H2 σ2 s2 k2 => k φ2 F2 H2 σ2 s2 (k'.trans k2)
        | bk => exact fun φ2 F2 H2 σ2 s2 k2 => k φ2 F2 H2 σ2 s2 (k'.trans k2)
        | ct => exact fun φ2 F2 H2 σ2 s2 k2 => k φ2 F2 H2 σ2 s2 (k'.trans k2)
      | rt v =>
        simp only [Option.some.injEq, Prod.mk.injEq] at e2
        obtain ⟨rfl, rfl, rfl⟩ := e2
        exact k
      | bk =>
        simp only [Option.some.injEq, Prod.mk.injEq] at e2
        obtain ⟨rfl, rfl, rfl⟩ := e2
        exact k
      | ct =>
        simp only [Option.some.injEq, Prod.mk.injEq] at e2
        obtain ⟨rfl, rfl, rfl⟩ := e2
        exact k
end
end
end Iv

set_option Elab.async false
set_option linter.all false
set_option maxRecDepth 100000
set_option maxHeartbeats 4000000
/-! Iv, part B11: the defs of the text. -/
namespace Iv
open PySem PySem.Spec PyProof.Rows L2

/-- parameters by place alone -/
def plainArgs (p : Arguments) : Bool := p.posonlyargs.isEmpty && (p.vararg.isNone && (p.kwonlyargs.isEmpty && (p.kw_defaults.isEmpty && (p.kwarg.isNone && p.defaults.isEmpty))))
theorem lookup_zip : ∀ {ps : List Str} {us : List Value} {x : Str}, us.length = ps.length → x ∈ ps → ((ps.zip us).lookup x).isNone = false
  | [], _, x, _, h => by simp at h
  | p :: ps, [], x, l, _ => by simp at l
  | p :: ps, u :: us, x, l, h => by
    rw [List.zip_cons_cons, List.lookup_cons]
    cases e : x == p with
    | true => rfl
    | false =>
      have : x ∈ ps := by
        rcases List.mem_cons.mp h with z | z
        · subst z
          simp at e
        · exact z
      exact lookup_zip (by simpa using l) this
theorem fm_congr {α β : Type} {f g : α → Option β} : ∀ {l : List α}, (∀ a ∈ l, f a = g a) → l.filterMap f = l.filterMap g
  | [], _ => rfl
  | a :: l, h => by
    rw [List.filterMap_cons, List.filterMap_cons, h a List.mem_cons_self, fm_congr fun b hb => h b (List.mem_cons_of_mem _ hb)]
theorem zip_lookup : ∀ {ps : List Str} {us : List Value}, ps.Nodup → us.length = ps.length → (ps.filterMap fun n => ((ps.zip us).lookup n).map fun v => (n, v)) = ps.zip us
  | [], us, _, _ => by simp
  | p :: ps, [], _, l => by simp at l
  | p :: ps, u :: us, nd, l => by
    obtain ⟨h1, h2⟩ := List.nodup_cons.mp nd
    have ih := zip_lookup (us := us) h2 (by simpa using l)
    rw [List.zip_cons_cons, List.filterMap_cons]
    have e1 : ((p, u) :: ps.zip us).lookup p = some u := by simp [List.lookup_cons]
    rw [e1]
    simp only [Option.map_some]
    congr 1
    refine Eq.trans (fm_congr fun n hn => ?_) ih
    have : (n == p) = false := by
      simp only [beq_eq_false_iff_ne, ne_eq]
      rintro rfl
      exact h1 hn
    rw [List.lookup_cons, this]
theorem bind_plain {x qual : Str} {params : Arguments} {body : List Stmt} {scope : Scope} {kV doc pm : Value} {an : Option Addr} {cdv ct : Value} {us : List Value} (h : plainArgs params = true) (hl : us.length = params.args.length) (nd : (params.args.map (·.arg)).Nodup) :
    bindArgs (PySem.W.fnOf x qual params body scope .none kV doc pm an cdv ct) ⟨us, []⟩ = pure ((params.args.map (·.arg)).zip us) := by
  obtain ⟨po, ar, va, ko, kd, kw, df⟩ := params
  unfold plainArgs at h
  simp only [Bool.and_eq_true, List.isEmpty_iff, Option.isNone_iff_eq_none] at h
  obtain ⟨rfl, rfl, rfl, rfl, rfl, rfl⟩ := h
  have hl : us.length = (ar.map (·.arg)).length := by simpa using hl
  have miss : ((ar.map (·.arg)).filter fun n => (((ar.map (·.arg)).zip us).lookup n).isNone) = [] := by
    rw [List.filter_eq_nil_iff]
    intro n hn
    rw [lookup_zip hl hn]
    simp
  unfold bindArgs
  simp [PySem.W.fnOf, seqItems?, miss, hl]
  have e0 : notAStandIn Value.none = pure () := rfl
  rw [e0, pure_bind]
  rw [if_neg]
  · have := zip_lookup nd hl
    rw [List.filterMap_map] at this
    rw [this]
  · simp
    intro a ha
    have h2 := lookup_zip hl (List.mem_of_mem_take ha)
    cases e : ((ar.map (·.arg)).zip us).lookup a with
    | none => rw [e] at h2; cases h2
    | some v => exact ⟨v, PySem.mem_of_lookup e⟩

/-! ### room, with no guard around -/
structure RoomG (k : Nat) (A : Around) : Prop where
  room : Room k A
  grd : A.guards = some []
abbrev E_ : XK := fun _ _ _ => False
/-- a def keeps a promise, in at most k calls, one in another; no exception leaves it -/
structure FnG (P : Program) (w : World) (K : PySem.W.Frag) (mg : Str → Option Value) (base : Heap) (k : Nat) (f : Addr) (fd : FuncData) (ps : List Str) (sp : Sp) : Prop where
  len : ∀ vs H Q, sp vs H Q E_ → vs.length = ps.length
  run : ∀ (A : Around) (outer : List PySem.Env) (s : Shared) (H : Hp) (args : Args) (us : List Value) (vs : List V) (Q : VK), RoomG k A → Env0 P w K mg base A outer s H →
    BindsTo s fd args (ps.zip us) → Vals vs us → sp vs H Q E_ → codeAny (model P w) A (.call (.ref f) args) (CR CX0 outer P w H s Q E_) s
theorem RoomG.deeper {k : Nat} {A : Around} (r : RoomG (k + 1) A) (env : PySem.Env) : RoomG k (A.deeper env) := ⟨r.room.deeper env, r.grd⟩
section
variable {P : Program} {w : World} {K : PySem.W.Frag} {mg : Str → Option Value} {base : Heap} {k : Nat} {f : Addr} {fd : FuncData} {ps : List Str} {sp : Sp}
/-- the callee runs within X -/
theorem FnG.callP {X : Cx} (G : FnG X.prog X.w X.K X.mg X.base k f fd ps sp) (hr : RoomG k X.A) (hb : Binds X.K fd ps []) : CallP X f sp := by
  intro pins s σ H vs us Q I r h
  have hl : us.length = ps.length := r.length.symm.trans (G.len vs H Q h)
  have bt : BindsTo s fd ⟨us, []⟩ (ps.zip us) := by
    have z := hb s us I.kIn (by simpa using hl)
    rwa [List.append_nil] at z
  have c := G.run X.A X.stack s H ⟨us, []⟩ us vs Q hr I.env0 bt r h
  refine wpAny_call (codeAny_mono c fun res s' hq => ?_)
  match res, hq with
  | .error _, hq => exact False.elim hq
  | .ok (.ret _), hq => exact I.after hq
  | .ok .next, hq => exact False.elim hq
  | .ok .brk, hq => exact False.elim hq
  | .ok .cont, hq => exact False.elim hq
/-- THE RULE for a def, by its body -/
theorem FnG.of {name qual : Str} {params : Arguments} {body : List Stmt} {scope : Scope} {N : List Str} (F : FunD K name qual params body scope [] [] f fd) (S : FnScope N ps scope) (len : ∀ vs H Q, sp vs H Q E_ → vs.length = ps.length)
    (hbody : ∀ (cdv : Value) (A : Around) (outer : List PySem.Env) (s : Shared) (H : Hp) (vs : List V) (Q : VK), RoomG k (A.deeper (envOfC qual scope s.heap.objs.size f cdv)) → sp vs H Q E_ →
      ∃ t, PSs (cxOf CX0 P w K mg base N qual scope f cdv A outer s H E_).nox body t ∧ t { nx := fun _ H' => Q .non H', rt := Q } (start N vs) H) : FnG P w K mg base (k + 1) f fd ps sp := by
  obtain ⟨oc, od, dV, kV, doc, pm, an, cdv, ct, osl, rfl, lk, hcd, _, _⟩ := F.ex
  refine ⟨len, fun A outer s H args us vs Q hr e0 hb r hsp => ?_⟩
  have hl : vs.length = ps.length := len vs H Q hsp
  have old : ∀ b o, base.get? b = some o → s.heap.get? b = some o := fun b o e => (e0.bs b o e).1
  have KX : K.In s.heap := e0.mod.kin.keeps old
  have lim : s.heap.NoLimit := e0.mod.nolimit.keeps old
  have kinds : ∀ y ∈ ps.zip us, scope.names.lookup y.1 = some .local ∨
      (scope.names.lookup y.1 = some .cell ∧ ((cellsFrom (s.heap.objs.size + 1) scope.names []).lookup y.1).isSome = true) := by
    rintro ⟨n, v⟩ hy
    have hn : n ∈ ps := (List.of_mem_zip hy).1
    rcases S.par n hn with q | q
    · exact .inl q
    · exact .inr ⟨q, PySem.W.cellsFrom_some _ _ _ (.inl q)⟩
  refine codeAny_call_function hr.room.depth (KX _ _ lk) rfl S.co S.gen rfl
    (PySem.W.codeRec_of KX hcd) (hb _ _ _ _ ?_)
  refine wpAny_newFunctionEnv_cells S.kind kinds fun env he s1 x => ?_
  subst he
  refine ⟨lim.keeps x.toInCall.keep, codeAny_func ?_⟩
  obtain ⟨t, ht, hq⟩ := hbody cdv A outer s H vs Q (hr.deeper _) hsp
  have I := inv_start (CX := CX0) (E := E_) S hr.room.hd e0 hl r x
  refine wpAny_mono (ht.nox.run [] s1 (start N vs) H _ I hq) (fun fl s' hs => ?_) fun e s' hs => hs
  have fin : ∀ {σ' : L2.St} {H' : Hp} {v : V} {u : Value}, Inv (cxOf CX0 P w K mg base N qual scope f cdv A outer s H E_) [] σ' H' s' →
      RelV v u → Q v H' → CE outer P w H s Q u s' := fun {σ' H' v u} J rv q => ⟨v, H', J.os, J.bare, J.base, J.hok, rv, q⟩
  match fl, hs with
  | .ret u, ⟨v, σ', H', J, rv, q⟩ => exact fin J rv q
  | .next, ⟨σ', H', J, q⟩ => exact fin (v := V.non) (u := Value.none) J rfl q
  | .brk, ⟨_, _, _, q⟩ => exact False.elim q
  | .cont, ⟨_, _, _, q⟩ => exact False.elim q
end

/-! ### the text's defs, all at once -/
/-- what is checked of one def: its names, its body -/
def ckFn (S : Sta) (fn : Fn) (params : Arguments) (body : List Stmt) (sc : Scope) : Bool :=
  (match sc.kind with | .function => true | _ => false) && (!sc.isCoroutine && (!sc.isGenerator && (decide fn.N.Nodup && (decide (fn.np ≤ fn.N.length) && (
    ((fn.N.take fn.np).all fun x => match sc.names.lookup x with | some .local => true | some .cell => true | _ => false) && ((sc.names.all fun y => match y.2 with | .free => false | _ => true) && (
      plainArgs params && (decide (params.args.map (·.arg) = fn.N.take fn.np) && ckSs S fn.N sc fn.body body))))))))
structure DefOk (S : Sta) (K : PySem.W.Frag) (fa : Nat → Addr) (f : Nat) (fn : Fn) : Prop where
  ex : ∃ (name : Str) (params : Arguments) (body : List Stmt) (sc : Scope) (fd : FuncData), FunD K name fn.qual params body sc [] [] (fa f) fd ∧ ckFn S fn params body sc = true
theorem ckFn_ok {S : Sta} {fn : Fn} {params : Arguments} {body : List Stmt} {sc : Scope} (h : ckFn S fn params body sc = true) :
    FnScope fn.N (fn.N.take fn.np) sc ∧ fn.np ≤ fn.N.length ∧ plainArgs params = true ∧ params.args.map (·.arg) = fn.N.take fn.np ∧ ckSs S fn.N sc fn.body body = true := by
  unfold ckFn at h
  simp only [Bool.and_eq_true, decide_eq_true_eq, Bool.not_eq_true'] at h
  obtain ⟨h1, h2, h3, h4, h5, h6, h7, h8, h9, h10⟩ := h
  refine ⟨⟨?_, h2, h3, h4, ?_, fun x hx => ?_, fun y hy z => ?_⟩, h5, h8, h9, h10⟩
  · split at h1
    · assumption
    · cases h1
  · rw [List.length_take, Nat.min_eq_left h5]
  · have q := List.all_eq_true.mp h6 x hx
    split at q
    · exact .inl (by assumption)
    · exact .inr (by assumption)
    · cases q
  · have q := List.all_eq_true.mp h7 y hy
    rw [z] at q
    cases q
section
variable {S : Sta} {K : PySem.W.Frag} {ca fa : Nat → Addr} {φ : List Addr} {F : Addr → Prop} {H : Hp}
theorem start_env {fn : Fn} : ∀ {ds : List D} {vs : List V}, Reps K φ F H ds vs → ds.length = fn.np → fn.np ≤ fn.N.length →
    EnvOk K φ F H (start fn.N vs) (ds.map (fun d => some (Rv.val d)) ++ List.replicate (fn.N.length - fn.np) none) ∧
    ∀ (i : Nat) (r : Rv), (ds.map (fun d => some (Rv.val d)) ++ List.replicate (fn.N.length - fn.np) none)[i]? = some (some r) → r.own = false := by
  intro ds vs r hn hl
  have l := r.length
  have key : ∀ (i : Nat) (rv : Rv), (ds.map (fun d => some (Rv.val d)) ++ List.replicate (fn.N.length - fn.np) none)[i]? = some (some rv) → ∃ d, ds[i]? = some d ∧ rv = .val d := by
    intro i rv e
    by_cases hi : i < ds.length
    · rw [List.getElem?_append_left (by simpa using hi), List.getElem?_map] at e
      simp only [Option.map_eq_some_iff, Option.some.injEq] at e
      obtain ⟨d, e1, e2⟩ := e
      exact ⟨d, e1, e2.symm⟩
    · rw [List.getElem?_append_right (by simpa using hi), List.getElem?_replicate] at e
      split at e <;> cases e
  refine ⟨⟨?_, fun i rv e => ?_, fun i j ri rj a e1 e2 o1 o2 s1 s2 => ?_⟩, fun i rv e => ?_⟩
  · unfold L2.start
    simp only [List.length_append, List.length_map, List.length_replicate]
    omega
  · obtain ⟨d, e1, rfl⟩ := key i rv e
    obtain ⟨v, e2, rd⟩ := r.get e1
    refine ⟨v, ?_, rd⟩
    unfold L2.start
    have : i < vs.length := (List.getElem?_eq_some_iff.mp e2).1
    rw [List.getElem?_append_left (by simpa using this), List.getElem?_map, e2]
    rfl
  · obtain ⟨d, _, rfl⟩ := key i ri e1
    cases o1
  · obtain ⟨d, _, rfl⟩ := key i rv e
    rfl
/-- every def does what the small language says, as deep as there is room -/
theorem defs_ok {P : Program} {w : World} {mg : Str → Option Value} {base : Heap} {wf : Nat} (fct : Fct S K mg fa) (D : ∀ (f : Nat) (fn : Fn), S.Tb.fns[f]? = some fn → DefOk S K fa f fn) :
    ∀ (n f : Nat) (fn : Fn), S.Tb.fns[f]? = some fn → ∃ fd, FnG P w K mg base n (fa f) fd (fn.N.take fn.np) (spF K ca ((calls S.Tb wf n).call f)) ∧ Binds K fd (fn.N.take fn.np) [] ∧
      (∀ (s : Shared) (us : List Value), us.length = (fn.N.take fn.np).length → BindsTo s fd ⟨us, []⟩ ((fn.N.take fn.np).zip us))
  | n, f, fn, e0 => by
    obtain ⟨name, params, body, sc, fd, FD, hck⟩ := (D f fn e0).ex
    obtain ⟨sco, hnp, pla, pn, hbd⟩ := ckFn_ok hck
    have bind : ∀ (kV doc pm : Value) (an : Option Addr) (cdv ct : Value) (us : List Value), us.length = (fn.N.take fn.np).length → bindArgs (PySem.W.fnOf name fn.qual params body sc .none kV doc pm an cdv ct) ⟨us, []⟩ = pure ((fn.N.take fn.np).zip us) := by
      intro kV doc pm an cdv ct us hl
      rw [← pn] at hl ⊢
      exact bind_plain pla (by simpa using hl) (by rw [pn]; exact sco.nd.sublist (List.take_sublist _ _))
    refine ⟨fd, ?_, FD.bindsN bind, fun s us hl => FD.bindsA bind s us hl⟩
    have lens : ∀ (m : Nat) (vs : List V) (H : Hp) (Q : VK), spF K ca ((calls S.Tb wf m).call f) vs H Q E_ → vs.length = (fn.N.take fn.np).length := by
      rintro m vs H Q ⟨φ, F, st, ds, r, st', so, rds, ev, k⟩
      rw [List.length_take, Nat.min_eq_left hnp, rds.length]
      cases m with
      | zero => simp [calls] at ev
      | succ m =>
        simp only [calls, e0, Fn.run] at ev
        split at ev
        · assumption
        · cases ev
    cases n with
    | zero => exact ⟨lens 0, fun A outer s H args us vs Q _ _ _ _ ⟨φ, F, st, ds, r, st', so, rds, ev, k⟩ => by simp [calls] at ev⟩
    | succ n =>
      refine FnG.of FD sco (lens (n + 1)) fun cdv A outer s H vs Q hr hsp => ⟨tSs_ K ca (calls S.Tb wf n) wf fn.body, ?_, ?_⟩
      · refine sndSs (S := S) (fa := fa) (N := fn.N) (sc := sc) fn.body body ⟨⟨rfl, rfl, rfl, sco.nd, rfl, fun _ _ => rfl, ?_, hr.grd, fct, fun Y hY g gn eg => ?_⟩, rfl, sco.kind⟩ hbd
        · have := hr.room.un
          show (A.deeper _).units + 200 < cLine
          omega
        · obtain ⟨fd2, G2, B2, _⟩ := defs_ok (P := P) (w := w) (base := base) fct D n g gn eg
          obtain ⟨y1, y2, y3, y4, y5, y6⟩ := hY
          refine FnG.callP (k := n) (fd := fd2) (ps := gn.N.take gn.np) ?_ ?_ ?_
          · rw [y1, y2, y3, y4, y5]
            exact G2
          · rw [y6]
            exact hr
          · rw [y3]
            exact B2
      · obtain ⟨φ, F, st, ds, r, st', so, rds, ev, k⟩ := hsp
        simp only [calls, e0, Fn.run] at ev
        split at ev
        · rename_i hl
          simp only [Option.bind_eq_some_iff] at ev
          obtain ⟨⟨fl, env', st2⟩, e1, e2⟩ := ev
          obtain ⟨he, hown⟩ := start_env (fn := fn) rds hl hnp
          refine ⟨φ, F, H, φ, F, _, st, fl, env', st2, ⟨Step.refl, so, he, fun i rv a ei oi _ => by rw [hown i rv ei] at oi; cases oi⟩, e1, ?_⟩
          cases fl with
          | rt rv =>
            simp only [Option.some.injEq, Prod.mk.injEq] at e2
            obtain ⟨rfl, rfl⟩ := e2
            exact k
          | nx =>
            simp only [Option.some.injEq, Prod.mk.injEq] at e2
            obtain ⟨rfl, rfl⟩ := e2
            exact fun φ' F' H' σ' s' _ => k φ' F' H' _ s'.step s'.so rfl (fun o => nomatch o)
          | bk => cases e2
          | ct => cases e2
        · cases ev
end
end Iv

set_option Elab.async false
set_option linter.all false
set_option maxRecDepth 100000
set_option maxHeartbeats 4000000
/-! Iv, part B12: the law's end. -/
namespace Iv
open PySem PySem.Spec PyProof.Rows L2

/-- the script's list, and nothing else, is known -/
def scrH (a : Addr) (o : Obj) (u : HO) : Hp := fun b => if b = a then some (.frz o u) else none
theorem scrH_at {a : Addr} {o : Obj} {u : HO} : scrH a o u a = some (.frz o u) := by simp [scrH]
theorem scrH_ne {a b : Addr} {o : Obj} {u : HO} (h : b ≠ a) : scrH a o u b = none := by simp [scrH, h]
section
variable {P : Program} {w : World} {K : PySem.W.Frag} {mg mb : Str → Option Value} {k : Nat} {fa a : Addr} {x : Str} {sp : Sp} {s₁ : Shared} {vs : List Value} {ns : List Int}
/-- the heap that is told as the ground: all but the script -/
theorem end_at {H : Hp} (hok : HOk P w H s₁.heap) (hz : ∀ b, H b = none ∨ (b = a ∧ K.lookup a = none ∧ ∃ o u, H b = some (.frz o u)))
    (obj : s₁.heap.get? a = some { cls := .type "list", data := .seq vs.toArray }) (KX : K.In s₁.heap) (hns : s₁.heap.Ns mainGlobals mg) (hb : s₁.heap.Ns builtinsNs mb)
    (hbb : ∀ y : Str, y ≠ "__name__" → mb y = bootBuiltins y) (hlim : s₁.heap.NoLimit) (hg : s₁.gens = #[]) (hr : RoomG k callerA)
    (G : ∀ base : Heap, ∃ fd, FnG P w K mg base k fa fd [x] sp ∧ BindsTo s₁ fd ⟨[.ref a], []⟩ [(x, .ref a)])
    (h : sp [.ref a] H (fun v _ => v = .bl true) E_) :
    codeAny (model P w) callerA (.call (.ref fa) ⟨[.ref a], []⟩) (fun r s' => r = .ok (.ret (.bool true)) ∧ OldK s₁.heap s'.heap ∧ s'.os = s₁.os ∧ AllBare s'.gens) s₁ := by
  have free : ∀ {b : Addr} {o : Obj}, s₁.heap.get? b = some o → (b = a → K.lookup a = none → False) → (hidT s₁.heap H).get? b = some o := fun {b o} e nb => by
    rcases hz b with z | ⟨z1, z2, _⟩
    · exact hidT_get e z
    · exact (nb z1 z2).elim
  have notA : ∀ {b : Addr} {o : Obj} {es : Array DictEntry} {ep : Nat}, s₁.heap.get? b = some o → o.data = .dict es ep → b = a → K.lookup a = none → False := fun e d z _ => by
    subst z
    rw [obj] at e
    cases e
    cases (show Data.seq vs.toArray _ = Data.dict _ _ from d)
  have spaces : ∀ {b : Addr} {m : Str → Option Value}, s₁.heap.Ns b m → (hidT s₁.heap H).Ns b m := by
    rintro b m ⟨o, es, ep, e, d, r⟩
    exact ⟨o, es, ep, free e (notA e d), d, r⟩
  have Kin : K.In (hidT s₁.heap H) := fun b o e => free (KX b o e) fun z1 z2 => by
    subst z1
    rw [z2] at e
    cases e
  obtain ⟨mc, l1, l2⟩ := hlim
  have M : Mod K mg (hidT s₁.heap H) := ⟨Kin, spaces hns, ⟨mb, spaces hb, hbb⟩, ⟨mc, spaces l1, l2⟩⟩
  have start : Env0 P w K mg (hidT s₁.heap H) callerA [] s₁ H :=
    ⟨rfl, M, fun b o e => of_hidT e, Nat.le_of_eq (hidT_size _ _), trivial, fun b hb => (List.not_mem_nil hb).elim, hok, .of_eq hg⟩
  obtain ⟨fd, g0, bd⟩ := G (hidT s₁.heap H)
  have go := g0.run callerA [] s₁ H ⟨[.ref a], []⟩ [.ref a] [.ref a] _ hr start bd (.cons rfl .nil) h
  refine codeAny_mono go fun r s' hq => ?_
  match r, hq with
  | .error _, hq => exact hq.elim
  | .ok .next, hq => exact hq.elim
  | .ok .brk, hq => exact hq.elim
  | .ok .cont, hq => exact hq.elim
  | .ok (.ret u), ⟨v, H', os, bare, un, hok', rv, q⟩ =>
    subst q
    cases rv
    refine ⟨rfl, OldK.of_keep fun b o e => ?_, os, bare⟩
    rcases hz b with z | ⟨_, _, ob, u2, z⟩
    · exact un.keep b o e z (fun m => (List.not_mem_nil m).elim) (fun m => (List.not_mem_nil m).elim)
    · have z2 := un.frzs b ob _ z
      obtain ⟨e1, _⟩ := hok b _ z
      obtain ⟨e2, _⟩ := hok' b _ z2
      rw [e] at e1
      cases e1
      exact e2
end

/-- the facts that a law's end asks of the top -/
structure Top (S : Sta) (L : Nat) (K : PySem.W.Frag) (h : Heap) (mg : Str → Option Value) (fa : Addr) (at_ : Nat → Addr) : Prop where
  kin : K.In h
  fct : Fct S K mg at_
  defs : ∀ (f : Nat) (fn : Fn), S.Tb.fns[f]? = some fn → DefOk S K at_ f fn
  law : at_ L = fa
/-- a law that the small language says is true -/
theorem walk_iv {l : PySem.W.OpenLaw} {n k wf L : Nat} {fn : Fn} {x : Str} {S : Sta} {q : Program} {loose : List Str} {XP : (Str → Option Value) → Heap → Prop} {YP : World → Heap → Prop} {d : DefRec}
    (hn : l.most = some n) (hn2 : n ≤ sizeLine) (hdf : d.params.defaults = []) (hr : RoomG k callerA) (hL : S.Tb.fns[L]? = some fn) (hN : fn.N.take fn.np = [x])
    (F : ∀ (w : World) (mg : Str → Option Value) (fa : Addr) (h : Heap), YP w h → h.Ns mainGlobals mg → mg d.name = some (.ref fa) → ∃ (K : PySem.W.Frag) (at_ : Nat → Addr), Top S L K h mg fa at_)
    (run : ∀ ns : List Int, ns.length ≤ n → (∀ z ∈ ns, Builtin.Int.intBits z ≤ 1048576) → ∃ st, (calls S.Tb wf k).call L [.scr (ns.map D.int)] [] = some (.val (.bl true), st)) :
    PySem.W.WalkO q loose XP YP l.row.toRowW d [] (fun f vs => PySem.call f vs) := by
  refine Att.attach_callB hn hdf fun w s₀ s₁ mg mb fa o pm cd doc a vs ns G Y ho hd hcd hmg hobj hints hlen hbits hg => ?_
  obtain ⟨K, at_, kin, fct, defs, rfl⟩ := F w mg fa _ Y G.T.g hmg
  have rv := vals_ints hints
  have lenV := hints.length
  have each := fun base => defs_ok (P := l.prog) (w := w) (mg := mg) (base := base) (wf := wf) (ca := fun _ => 0) fct defs k L fn hL
  obtain ⟨st, ev⟩ := run ns hlen hbits
  have promise : ∀ H : Hp, (∀ H' : Hp, (∀ o u, H a = some (.frz o u) → H' a = some (.frz o u)) → SqL K H' a (ns.map V.int)) → spF K (fun _ => 0) ((calls S.Tb wf k).call L) [.ref a] H (fun v _ => v = .bl true) E_ := fun H hS =>
    ⟨[], fun _ => False, [], [.scr (ns.map D.int)], .val (.bl true), st, ⟨⟨fun b hb => (List.not_mem_nil hb).elim, fun _ hb => hb.elim, fun _ hb => hb.elim⟩, List.nodup_nil, rfl, fun i ob b e _ => by simp at e⟩,
      ⟨_, [], rfl, ⟨a, _, rfl, hS, Reps.ints⟩, rfl⟩, ev, fun φ' F' H' v _ _ r _ => r⟩
  have promised : ∀ base : Heap, ∃ fd, FnG l.prog w K mg base k (at_ L) fd [x] (spF K (fun _ => 0) ((calls S.Tb wf k).call L)) ∧ BindsTo s₁ fd ⟨[.ref a], []⟩ [(x, .ref a)] := fun base => by
    obtain ⟨fd, g0, _, bd⟩ := each base
    rw [hN] at g0 bd
    exact ⟨fd, g0, bd s₁ [.ref a] rfl⟩
  have end_ := fun (H : Hp) hok hz => end_at (H := H) hok hz hobj kin G.T.g G.T.b G.T.builtins G.T.nolimit hg hr promised
  have size : (ns.map V.int).length ≤ sizeLine := by
    rw [List.length_map]
    exact Nat.le_trans hlen hn2
  cases hk : K.lookup a with
  | some ob =>
    have e := kin a ob hk
    rw [hobj] at e
    cases e
    exact end_ (fun _ => none) (fun b u z => by cases z) (fun b => .inl rfl)
      (promise _ fun H' _ => .inr ⟨_, vs.toArray, _, hk, rfl, rfl, rfl, by rw [List.size_toArray, lenV]; exact Nat.le_trans hlen hn2, by simpa using rv⟩)
  | none =>
    refine end_ (scrH a { cls := .type "list", data := .seq vs.toArray } (.lst (ns.map V.int))) (fun b u z => ?_) (fun b => ?_) (promise _ fun H' keep => .inl (.inr ⟨_, keep _ _ scrH_at⟩))
    · by_cases hb : b = a
      · subst hb
        rw [scrH_at] at z
        cases z
        exact ⟨hobj, size, vs, _, rv, hobj⟩
      · rw [scrH_ne hb] at z
        cases z
    · by_cases hb : b = a
      · subst hb
        exact .inr ⟨rfl, hk, _, _, scrH_at⟩
      · exact .inl (scrH_ne hb)
end Iv

set_option Elab.async false
set_option linter.all false
set_option maxRecDepth 100000
set_option maxHeartbeats 4000000
/-! Iv, part B13: the head's facts. -/
namespace Iv
open PySem PySem.Spec PyProof.Rows L2

/-! ### constants of the module -/
def dvOf : D → Option He.Dv
  | .non => some .non
  | .bl b => some (.bl b)
  | .int i => some (.int i)
  | .str x => some (.str x)
  | _ => none
def dvsOf : List D → Option (List He.Dv)
  | [] => some []
  | d :: r => (dvOf d).bind fun v => (dvsOf r).map fun l => v :: l
def gloB (K : PySem.W.Frag) (p : Str × D) : Bool := match p.2 with
  | .int i => (He.Fa.int p.1 i).ok K
  | .str z => (He.Fa.str p.1 z).ok K
  | .tup ds => (He.Fa.glo p.1).ok K && (match dvsOf ds with
    | some vs => He.tupB K p.1 vs
    | none => false)
  | _ => false
theorem dvOf_rep {K : PySem.W.Frag} {φ : List Addr} {F : Addr → Prop} {H : Hp} {d : D} {v : He.Dv} (h : dvOf d = some v) : Rep K φ F H d (v.v K) := by
  cases d <;> cases h <;> rfl
theorem dvsOf_rep {K : PySem.W.Frag} {φ : List Addr} {F : Addr → Prop} {H : Hp} : ∀ {ds : List D} {vs : List He.Dv}, dvsOf ds = some vs → Reps K φ F H ds (vs.map (He.Dv.v K))
  | [], vs, h => by
    cases h
    rfl
  | d :: ds, vs, h => by
    simp only [dvsOf, Option.bind_eq_some_iff, Option.map_eq_some_iff] at h
    obtain ⟨v, e1, l, e2, rfl⟩ := h
    exact ⟨_, _, rfl, dvOf_rep e1, dvsOf_rep e2⟩
section
variable {K : PySem.W.Frag} {h : Heap} {mg : Str → Option Value}
theorem gloB_ok (X : K.In h) (G : h.Ns mainGlobals mg) {x : Str} {d : D} (c : gloB K (x, d) = true) : ∃ u v, mg x = some u ∧ RelV v u ∧ ∀ φ F H, Rep K φ F H d v := by
  unfold gloB at c
  split at c
  · rename_i i e
    cases (show d = _ from e)
    obtain ⟨t, e2⟩ := He.int_ok X G c
    exact ⟨_, .int i, e2, ⟨t, rfl⟩, fun _ _ _ => rfl⟩
  · rename_i z e
    cases (show d = _ from e)
    obtain ⟨t, e2⟩ := He.str_ok X G c
    exact ⟨_, .str z, e2, ⟨t, rfl⟩, fun _ _ _ => rfl⟩
  · rename_i ds e
    cases (show d = _ from e)
    obtain ⟨c1, c2⟩ := He.ba c
    split at c2
    · rename_i vs e3
      exact ⟨_, .ref (He.ga K x), He.glo_ok X G c1, rfl, fun φ F H => ⟨_, _, rfl, He.tupB_ok c2 H, dvsOf_rep e3⟩⟩
    · cases c2
  · cases c
end

/-! ### from the head to the top's facts -/
def ckDef (S : Sta) (fn : Fn) (d : He.DefD) : Bool := decide (d.at_ = fn.at_) && (decide (d.qual = fn.qual) && (d.dfl.isEmpty && (d.kwd.isEmpty && ckFn S fn d.params d.body d.scope)))
def ckDefs (S : Sta) : List Fn → List He.DefD → Bool
  | [], [] => true
  | f :: r, d :: t => ckDef S f d && ckDefs S r t
  | _, _ => false
theorem ckDefs_at {S : Sta} : ∀ {fs : List Fn} {ds : List He.DefD} {i : Nat} {f : Fn}, ckDefs S fs ds = true → fs[i]? = some f → ∃ d, ds[i]? = some d ∧ ckDef S f d = true
  | [], _, i, f, _, h => by simp at h
  | g :: r, [], i, f, c, h => by cases c
  | g :: r, d :: t, 0, f, c, h => by
    obtain ⟨c1, _⟩ := He.ba (show (ckDef S g d && ckDefs S r t) = true from c)
    cases h
    exact ⟨d, rfl, c1⟩
  | g :: r, d :: t, i + 1, f, c, h => by
    obtain ⟨_, c2⟩ := He.ba (show (ckDef S g d && ckDefs S r t) = true from c)
    exact ckDefs_at (i := i) c2 h
/-- what is asked of the facts -/
def faOf (S : Sta) : List He.Fa := (S.Tb.fns.filterMap fun f => match f.at_ with
  | (x, none) => some (.glo x)
  | _ => none) ++ S.frees.map .free
def exOf (S : Sta) (K : PySem.W.Frag) : Bool := S.glos.all (gloB K)
def atOf (S : Sta) (K : PySem.W.Frag) (f : Nat) : Addr := match S.Tb.fns[f]? with
  | some fn => He.fAd K fn.at_
  | none => 0
theorem top_of {S : Sta} {L : Nat} {fL : Fn} {xL : Str} {ds : List He.DefD} {w : World} {K : PySem.W.Frag} {h : Heap} {mg : Str → Option Value} {fa : Addr} (hck : ckDefs S S.Tb.fns ds = true)
    (hL : S.Tb.fns[L]? = some fL) (hx : fL.at_ = (xL, none)) (X : K.In h) (G : h.Ns mainGlobals mg) (hm : mg xL = some (.ref fa)) (c : He.SaysX (faOf S) ds [] [] (exOf S) w h K) : Top S L K h mg fa (atOf S K) := by
  have cD : He.SaysD (faOf S) ds K := congrArg (fun z : He.AlT => z.1) c.t
  have glo : ∀ {f : Nat} {fn : Fn} {x : Str}, S.Tb.fns[f]? = some fn → fn.at_ = (x, none) → mg x = some (.ref (He.ga K x)) := fun {f fn x} e1 e2 =>
    He.glo_ok X G (cD.facts (List.mem_append_left _ (List.mem_filterMap.mpr ⟨fn, List.mem_of_getElem? e1, by rw [e2]⟩)))
  have fun_ : ∀ {f : Nat} {fn : Fn}, S.Tb.fns[f]? = some fn → DefOk S K (atOf S K) f fn := fun {f fn} e1 => by
    obtain ⟨d, e2, ck⟩ := ckDefs_at hck e1
    unfold ckDef at ck
    simp only [Bool.and_eq_true, decide_eq_true_eq, List.isEmpty_iff] at ck
    obtain ⟨k1, k2, k3, k4, k5⟩ := ck
    obtain ⟨fd, FD⟩ := cD.defs (List.mem_of_getElem? e2)
    have ea : atOf S K f = He.fAd K d.at_ := by
      unfold atOf
      rw [e1, k1]
    unfold He.DefD.dvs He.DefD.kws at FD
    rw [k2, k3, k4] at FD
    exact ⟨⟨d.name, d.params, d.body, d.scope, fd, by rw [ea]; exact FD, k5⟩⟩
  have at_ : ∀ {f : Nat} {fn : Fn} {x : Str}, S.Tb.fns[f]? = some fn → fn.at_ = (x, none) → atOf S K f = He.ga K x := fun {f fn x} e1 e2 => by
    unfold atOf
    rw [e1]
    dsimp only
    rw [e2]
    rfl
  refine ⟨X, ⟨fun f fn x e1 e2 => ?_, fun x d hd => ?_, fun x hx => ?_⟩, fun f fn e => fun_ e, ?_⟩
  · rw [at_ e1 e2]
    refine ⟨glo e1 e2, ?_⟩
    obtain ⟨_, _, _, _, fd, FD, _⟩ := (fun_ e1).ex
    have := FD.kp
    rwa [at_ e1 e2] at this
  · exact gloB_ok X G (List.all_eq_true.mp c.more _ hd)
  · exact He.free_ok X G (cD.facts (List.mem_append_right _ (List.mem_map.mpr ⟨x, hx, rfl⟩)))
  · have := (glo hL hx).symm.trans hm
    rw [at_ hL hx]
    cases this
    rfl
end Iv

set_option Elab.async false
set_option linter.all false
set_option maxRecDepth 100000
set_option maxHeartbeats 4000000
/-! Iv, part M: the small language's evaluation by simp. -/
namespace Iv
open PySem L2
/-- a bind whose continuation simp leaves alone -/
structure Un {α β : Type} (f : α → Option β) where
  u : Unit := ()
def _root_.Option.bnd {α β : Type} (a : Option α) (f : α → Option β) (_ : Un f := {}) : Option β := a.bind f
@[simp] theorem bnd_some {α β : Type} {a : α} {f : α → Option β} {u : Un f} : (some a).bnd f u = f a := rfl
@[simp] theorem bnd_none {α β : Type} {f : α → Option β} {u : Un f} : (none : Option α).bnd f u = none := rfl
@[simp] theorem bnd_ite {α β : Type} {c : Prop} [Decidable c] {a b : Option α} {f : α → Option β} {u : Un f} : (if c then a else b).bnd f u = if c then a.bnd f u else b.bnd f u := by split <;> rfl
@[simp] theorem bind_ite_ {α β : Type} {c : Prop} [Decidable c] {a b : Option α} {f : α → Option β} : (if c then a else b).bind f = if c then a.bind f else b.bind f := by split <;> rfl
@[simp] theorem map_ite_ {α β : Type} {c : Prop} [Decidable c] {a b : Option α} {f : α → β} : (if c then a else b).map f = if c then a.map f else b.map f := by split <;> rfl

section
variable (C : Calls) (wf : Nat)
@[simp] theorem q1_evE (i : Nat) (env : Env) (st : Sto) : evE C (.var i) env st = match env[i]? with
    | some (some (.val d)) => some (.val d, st)
    | _ => none := by first | rfl | (rw [evE] <;> rfl)
@[simp] theorem q2_evE (d : D) (u1 : Env) (st : Sto) : evE C (.con d) u1 st = some (.val d, st) := by first | rfl | (rw [evE] <;> rfl)
@[simp] theorem q3_evE (u1 : Str) (d : D) (u2 : Env) (st : Sto) : evE C (.glo u1 d) u2 st = some (.val d, st) := by first | rfl | (rw [evE] <;> rfl)
@[simp] theorem q4_evE (es : Es) (env : Env) (st : Sto) : evE C (.tup es) env st = (evEs C es env st).bnd fun p => if p.1.length ≤ 1000 then some (.val (.tup p.1), p.2) else none := by first | rfl | (rw [evE] <;> rfl)
@[simp] theorem q5_evE (es : Es) (env : Env) (st : Sto) : evE C (.lst es) env st = (evEs C es env st).bnd fun p => if p.1.length ≤ 1000 then some (.lst p.1, p.2) else none := by first | rfl | (rw [evE] <;> rfl)
@[simp] theorem q6_evE (t : Bool) (u1 : Env) (st : Sto) : evE C (.dic t) u1 st = some (.dct t [], st) := by first | rfl | (rw [evE] <;> rfl)
@[simp] theorem q7_evE (e : E) (env : Env) (st : Sto) : evE C (.pro e) env st = (evE C e env st).bnd fun p => match p.1 with
    | .lst xs => some (.val (.ref p.2.length), p.2 ++ [.lst xs])
    | .dct t kvs => some (.val (.ref p.2.length), p.2 ++ [.dct t kvs])
    | .val _ => none := by first | rfl | (rw [evE] <;> rfl)
@[simp] theorem q8_evE (o : Bop) (a : E) (b : E) (env : Env) (st : Sto) : evE C (.bop o a b) env st = (pk a env st (evE C a env st)).bnd fun p => (pk b env p.2 (evE C b env p.2)).bnd fun q => (bopR o p.1 q.1).map fun r => (r, q.2) := by first | rfl | (rw [evE] <;> rfl)
@[simp] theorem q9_evE (a : E) (env : Env) (st : Sto) : evE C (.neg a) env st = (evE C a env st).bnd fun p => match p.1 with
    | .val (.int i) => some (.val (.int (-i)), p.2)
    | _ => none := by first | rfl | (rw [evE] <;> rfl)
@[simp] theorem q10_evE (a : E) (env : Env) (st : Sto) : evE C (.nt a) env st = (pk a env st (evE C a env st)).bnd fun p => (tru p.2 p.1).map fun b => (.val (.bl (!b)), p.2) := by first | rfl | (rw [evE] <;> rfl)
@[simp] theorem q11_evE (o : Cop) (a : E) (b : E) (env : Env) (st : Sto) : evE C (.cmp o a b) env st = (pk a env st (evE C a env st)).bnd fun p => (pk b env p.2 (evE C b env p.2)).bnd fun q => (copR q.2 o p.1 q.1).map fun r => (.val (.bl r), q.2) := by first | rfl | (rw [evE] <;> rfl)
@[simp] theorem q12_evE (o : Cop) (o' : Cop) (a : E) (b : E) (c : E) (env : Env) (st : Sto) : evE C (.chain o o' a b c) env st = (pk a env st (evE C a env st)).bnd fun p => (pk b env p.2 (evE C b env p.2)).bnd fun q => (copR q.2 o p.1 q.1).bnd fun k =>
      if k then (pk c env q.2 (evE C c env q.2)).bnd fun r => (copR r.2 o' q.1 r.1).map fun z => (.val (.bl z), r.2) else some (.val (.bl false), q.2) := by first | rfl | (rw [evE] <;> rfl)
@[simp] theorem q13_evE (a : E) (b : E) (env : Env) (st : Sto) : evE C (.and a b) env st = (evE C a env st).bnd fun p => (tru p.2 p.1.d).bnd fun k => if k then evE C b env p.2 else some p := by first | rfl | (rw [evE] <;> rfl)
@[simp] theorem q14_evE (a : E) (b : E) (env : Env) (st : Sto) : evE C (.or a b) env st = (evE C a env st).bnd fun p => (tru p.2 p.1.d).bnd fun k => if k then some p else evE C b env p.2 := by first | rfl | (rw [evE] <;> rfl)
@[simp] theorem q15_evE (a : E) (i : E) (env : Env) (st : Sto) : evE C (.ix a i) env st = (pk a env st (evE C a env st)).bnd fun p => (pk i env p.2 (evE C i env p.2)).bnd fun q => (ixR q.2 p.1 q.1).map fun d => (.val d, q.2) := by first | rfl | (rw [evE] <;> rfl)
@[simp] theorem q16_evE (a : E) (lo : Eo) (hi : Eo) (env : Env) (st : Sto) : evE C (.sl a lo hi) env st = (pk a env st (evE C a env st)).bnd fun p => (evEo C lo env p.2).bnd fun q => (evEo C hi env q.2).bnd fun r => (slR r.2 p.1 q.1 r.1).map fun z => (z, r.2) := by first | rfl | (rw [evE] <;> rfl)
@[simp] theorem q17_evE (f : Nat) (es : Es) (env : Env) (st : Sto) : evE C (.call f es) env st = (evEs C es env st).bnd fun p => C.call f p.1 p.2 := by first | rfl | (rw [evE] <;> rfl)
@[simp] theorem q18_evE (b : Blt) (es : Es) (env : Env) (st : Sto) : evE C (.blt b es) env st = (evPs C es env st).bnd fun p => (bltR p.2 b p.1).map fun r => (r, p.2) := by first | rfl | (rw [evE] <;> rfl)
@[simp] theorem q19_evE (m : Mth) (o : E) (es : Es) (env : Env) (st : Sto) : evE C (.mth m o es) env st = (evE C o env st).bnd fun p => (evEs C es env p.2).bnd fun q => mthR q.2 m p.1.d q.1 := by first | rfl | (rw [evE] <;> rfl)
@[simp] theorem q20_evE (o : E) (f : Str) (env : Env) (st : Sto) : evE C (.att o f) env st = (evE C o env st).bnd fun p => match p.1 with
    | .val (.ref n) => match p.2[n]? with
      | some (.ins _ fs) => (fs.lookup f).map fun d => (.val d, p.2)
      | _ => none
    | _ => none := by first | rfl | (rw [evE] <;> rfl)
@[simp] theorem q21_evE (o : E) (c : Nat) (m : Str) (es : Es) (env : Env) (st : Sto) : evE C (.met o c m es) env st = (evE C o env st).bnd fun p => match p.1 with
    | .val (.ref n) => match p.2[n]? with
      | some (.ins c' fs) => if c' = c ∧ fs.lookup m = none then (evEs C es env p.2).bnd fun q => C.meth c m (.ref n :: q.1) q.2 else none
      | _ => none
    | _ => none := by first | rfl | (rw [evE] <;> rfl)
@[simp] theorem q22_evE (c : Nat) (es : Es) (env : Env) (st : Sto) : evE C (.new c es) env st = (evEs C es env st).bnd fun p => C.make c p.1 p.2 := by first | rfl | (rw [evE] <;> rfl)
@[simp] theorem q23_evE (vs : List Nat) (t : T) (it : It) (c : Eo) (e : E) (env : Env) (st : Sto) : evE C (.lc vs t it c e) env st = (evIt C it env st true).bnd fun p =>
      (lcGo (fun x st => (bind C t x (wipeE env vs) st).bnd fun q => (evEt C c q.1 q.2).bnd fun (k : Bool × Sto) =>
        if k.1 then (evE C e q.1 k.2).map fun (z : Rv × Sto) => (some z.1.d, z.2) else some (none, k.2)) p.1.ok p.1.xs p.2).map fun z => (.lst z.1, z.2) := by first | rfl | (rw [evE] <;> rfl)
@[simp] theorem q24_evEs (u1 : Env) (st : Sto) : evEs C (.nil) u1 st = some ([], st) := by first | rfl | (rw [evEs] <;> rfl)
@[simp] theorem q25_evEs (e : E) (es : Es) (env : Env) (st : Sto) : evEs C (.cons e es) env st = (evE C e env st).bnd fun p => (evEs C es env p.2).map fun q => (p.1.d :: q.1, q.2) := by first | rfl | (rw [evEs] <;> rfl)
@[simp] theorem q26_evPs (u1 : Env) (st : Sto) : evPs C (.nil) u1 st = some ([], st) := by first | rfl | (rw [evPs] <;> rfl)
@[simp] theorem q27_evPs (e : E) (es : Es) (env : Env) (st : Sto) : evPs C (.cons e es) env st = (pk e env st (evE C e env st)).bnd fun p => (evPs C es env p.2).map fun q => (p.1 :: q.1, q.2) := by first | rfl | (rw [evPs] <;> rfl)
@[simp] theorem q28_evEt (u1 : Env) (st : Sto) : evEt C (.non) u1 st = some (true, st) := by first | rfl | (rw [evEt] <;> rfl)
@[simp] theorem q29_evEt (c : E) (env : Env) (st : Sto) : evEt C (.som c) env st = (pk c env st (evE C c env st)).bnd fun r => (tru r.2 r.1).map fun b => (b, r.2) := by first | rfl | (rw [evEt] <;> rfl)
@[simp] theorem q30_evEo (u1 : Env) (st : Sto) : evEo C (.non) u1 st = some (none, st) := by first | rfl | (rw [evEo] <;> rfl)
@[simp] theorem q31_evEo (e : E) (env : Env) (st : Sto) : evEo C (.som e) env st = (evE C e env st).bnd fun p => match p.1 with
    | .val (.int i) => some (some i, p.2)
    | _ => none := by first | rfl | (rw [evEo] <;> rfl)
@[simp] theorem q32_bind (i : Nat) (d : D) (env : Env) (st : Sto) : bind C (.nm i) d env st = if i < env.length then some (env.set i (some (.val d)), st) else none := by first | rfl | (rw [bind] <;> rfl)
@[simp] theorem q33_bind (s : Nat) (k : E) (d : D) (env : Env) (st : Sto) : bind C (.ix (.var s) k) d env st = (match env[s]? with
    | some (some (.val o)) => (evE C k env st).bnd fun p => (setO p.2 o p.1.d d).map fun st => (env, st)
    | some (some r) => (evE C k env st).bnd fun p => (setV r p.1.d d).map fun r => (env.set s (some r), p.2)
    | _ => none) := by first | rfl | (rw [bind] <;> rfl)
@[simp] theorem q34_bind (ts : Ts) (d : D) (env : Env) (st : Sto) : bind C (.tup ts) d env st = match d with
    | .tup xs => binds C ts xs env st
    | _ => none := by first | rfl | (rw [bind] <;> rfl)
@[simp] theorem q35_binds (env : Env) (st : Sto) : binds C (.nil) [] env st = some (env, st) := by first | rfl | (rw [binds] <;> rfl)
@[simp] theorem q36_binds (t : T) (ts : Ts) (x : D) (xs : List D) (env : Env) (st : Sto) : binds C (.cons t ts) (x :: xs) env st = (bind C t x env st).bnd fun p => binds C ts xs p.1 p.2 := by first | rfl | (rw [binds] <;> rfl)
@[simp] theorem q37_evIt (e : E) (env : Env) (st : Sto) (k : Bool) : evIt C (.seq e) env st k = (cond k (pk e env st (evE C e env st)) ((evE C e env st).map fun p => (p.1.d, p.2))).bnd fun p => (srcOf p.2 p.1).map fun s => (s, p.2) := by first | rfl | (rw [evIt] <;> rfl)
@[simp] theorem q38_evIt (a : E) (env : Env) (st : Sto) (u1 : Bool) : evIt C (.rng1 a) env st u1 = (evE C a env st).bnd fun p => match p.1 with
    | .val (.int n) => (rngD 0 n).map fun xs => (.vals xs, p.2)
    | _ => none := by first | rfl | (rw [evIt] <;> rfl)
@[simp] theorem q39_evIt (a : E) (b : E) (env : Env) (st : Sto) (u1 : Bool) : evIt C (.rng2 a b) env st u1 = (evE C a env st).bnd fun p => (evE C b env p.2).bnd fun q => match p.1, q.1 with
    | .val (.int i), .val (.int j) => (rngD i j).map fun xs => (.vals xs, q.2)
    | _, _ => none := by first | rfl | (rw [evIt] <;> rfl)
@[simp] theorem q40_exS (i : Nat) (e : E) (env : Env) (st : Sto) : exS C wf (.asg i e) env st = (evE C e env st).bnd fun p => if i < env.length then some (.nx, env.set i (some (.val p.1.d)), p.2) else none := by first | rfl | (rw [exS] <;> rfl)
@[simp] theorem q41_exS (i : Nat) (e : E) (env : Env) (st : Sto) : exS C wf (.asgO i e) env st = (evE C e env st).bnd fun p => if i < env.length then some (.nx, env.set i (some p.1), p.2) else none := by first | rfl | (rw [exS] <;> rfl)
@[simp] theorem q42_exS (t : T) (e : E) (env : Env) (st : Sto) : exS C wf (.tgt t e) env st = (evE C e env st).bnd fun p => (bind C t p.1.d env p.2).map fun q => (.nx, q.1, q.2) := by first | rfl | (rw [exS] <;> rfl)
@[simp] theorem q43_exS (i : Nat) (j : Nat) (a : E) (b : E) (env : Env) (st : Sto) : exS C wf (.par i j a b) env st = (evE C a env st).bnd fun p => (evE C b env p.2).bnd fun q =>
      if i < env.length ∧ j < env.length then some (.nx, (env.set i (some (.val p.1.d))).set j (some (.val q.1.d)), q.2) else none := by first | rfl | (rw [exS] <;> rfl)
@[simp] theorem q44_exS (o : E) (f : Str) (v : E) (env : Env) (st : Sto) : exS C wf (.satt o f v) env st = (evE C v env st).bnd fun p => (evE C o env p.2).bnd fun q => match q.1 with
    | .val (.ref n) => (match q.2[n]? with
      | some (.ins c fs) => if fs.length < 100 then some (.nx, env, q.2.set n (.ins c (fs.filter (fun (z : Str × D) => decide (z.1 ≠ f)) ++ [(f, p.1.d)]))) else none
      | _ => none)
    | _ => none := by first | rfl | (rw [exS] <;> rfl)
@[simp] theorem q45_exS (c : E) (a : Ss) (b : Ss) (env : Env) (st : Sto) : exS C wf (.ifs c a b) env st = (evT C c env st).bnd fun p => if p.1 then exSs C wf a env p.2 else exSs C wf b env p.2 := by first | rfl | (rw [exS] <;> rfl)
@[simp] theorem q46_exS (c : E) (b : Ss) (env : Env) (st : Sto) : exS C wf (.whl c b) env st = whlGo (evT C c) (exSs C wf b) wf env st := by first | rfl | (rw [exS] <;> rfl)
@[simp] theorem q47_exS (t : T) (it : It) (b : Ss) (env : Env) (st : Sto) : exS C wf (.for_ t it b) env st = (evIt C it env st false).bnd fun p => forGo (fun x env st => (bind C t x env st).bnd fun q => exSs C wf b q.1 q.2) p.1.ok p.1.xs env p.2 := by first | rfl | (rw [exS] <;> rfl)
@[simp] theorem q48_exS (e : E) (env : Env) (st : Sto) : exS C wf (.ret e) env st = (evE C e env st).map fun p => (.rt p.1, env, p.2) := by first | rfl | (rw [exS] <;> rfl)
@[simp] theorem q49_exS (i : Nat) (env : Env) (st : Sto) : exS C wf (.retV i) env st = (match env[i]? with
    | some (some r) => some (.rt r, env, st)
    | _ => none) := by first | rfl | (rw [exS] <;> rfl)
@[simp] theorem q50_exS (env : Env) (st : Sto) : exS C wf (.retN) env st = some (.rt (.val .non), env, st) := by first | rfl | (rw [exS] <;> rfl)
@[simp] theorem q51_exS (e : E) (env : Env) (st : Sto) : exS C wf (.ex e) env st = (evE C e env st).map fun p => (.nx, env, p.2) := by first | rfl | (rw [exS] <;> rfl)
@[simp] theorem q52_exS (i : Nat) (v : E) (env : Env) (st : Sto) : exS C wf (.app (.var i) v) env st = (match env[i]? with
    | some (some (.lst xs)) => (evE C v env st).bnd fun p => if xs.length < 1000000 then some (.nx, env.set i (some (.lst (xs ++ [p.1.d]))), p.2) else none
    | some (some (.val (.ref n))) => (match st[n]? with
      | some (.lst _) => (evE C v env st).bnd fun p => (match p.2[n]? with
        | some (.lst xs) => if xs.length < 1000000 then some (.nx, env, p.2.set n (.lst (xs ++ [p.1.d]))) else none
        | _ => none)
      | _ => none)
    | _ => none) := by first | rfl | (rw [exS] <;> rfl)
@[simp] theorem q53_exS (u1 : E) (u2 : Env) (u3 : Sto) : exS C wf (.clr u1) u2 u3 = none := by first | rfl | (rw [exS] <;> rfl)
@[simp] theorem q54_exS (i : Nat) (env : Env) (st : Sto) : exS C wf (.share i) env st = (match env[i]? with
    | some (some r) => some (.nx, env.set i (some (.val r.d)), st)
    | _ => none) := by first | rfl | (rw [exS] <;> rfl)
@[simp] theorem q55_exS (env : Env) (st : Sto) : exS C wf (.pass) env st = some (.nx, env, st) := by first | rfl | (rw [exS] <;> rfl)
@[simp] theorem q56_exS (env : Env) (st : Sto) : exS C wf (.brk) env st = some (.bk, env, st) := by first | rfl | (rw [exS] <;> rfl)
@[simp] theorem q57_exS (env : Env) (st : Sto) : exS C wf (.cnt) env st = some (.ct, env, st) := by first | rfl | (rw [exS] <;> rfl)
@[simp] theorem q58_exSs (env : Env) (st : Sto) : exSs C wf (.nil) env st = some (.nx, env, st) := by first | rfl | (rw [exSs] <;> rfl)
@[simp] theorem q59_exSs (s : S) (r : Ss) (env : Env) (st : Sto) : exSs C wf (.cons s r) env st = (exS C wf s env st).bnd fun p => match p.1 with
    | .nx => exSs C wf r p.2.1 p.2.2
    | _ => some p := by first | rfl | (rw [exSs] <;> rfl)
@[simp] theorem q_evT (e : E) (env : Env) (st : Sto) : evT C e env st = (pk e env st (evE C e env st)).bnd fun p => (tru p.2 p.1).map fun b => (b, p.2) := rfl
end
section
variable {env : Env} {st : Sto} {r : Option (Rv × Sto)}
@[simp] theorem pk_var {i : Nat} : pk (.var i) env st r = match env[i]? with
  | some (some r) => some (r.d, st)
  | _ => none := rfl
@[simp] theorem pk_con (d : D) : pk (.con d) env st r = r.map fun p => (p.1.d, p.2) := rfl
@[simp] theorem pk_glo (x : Str) (d : D) : pk (.glo x d) env st r = r.map fun p => (p.1.d, p.2) := rfl
@[simp] theorem pk_tup (es : Es) : pk (.tup es) env st r = r.map fun p => (p.1.d, p.2) := rfl
@[simp] theorem pk_lst (es : Es) : pk (.lst es) env st r = r.map fun p => (p.1.d, p.2) := rfl
@[simp] theorem pk_dic (t : Bool) : pk (.dic t) env st r = r.map fun p => (p.1.d, p.2) := rfl
@[simp] theorem pk_pro (e : E) : pk (.pro e) env st r = r.map fun p => (p.1.d, p.2) := rfl
@[simp] theorem pk_bop (o : Bop) (a b : E) : pk (.bop o a b) env st r = r.map fun p => (p.1.d, p.2) := rfl
@[simp] theorem pk_neg (a : E) : pk (.neg a) env st r = r.map fun p => (p.1.d, p.2) := rfl
@[simp] theorem pk_nt (a : E) : pk (.nt a) env st r = r.map fun p => (p.1.d, p.2) := rfl
@[simp] theorem pk_cmp (o : Cop) (a b : E) : pk (.cmp o a b) env st r = r.map fun p => (p.1.d, p.2) := rfl
@[simp] theorem pk_chain (o p : Cop) (a b c : E) : pk (.chain o p a b c) env st r = r.map fun p => (p.1.d, p.2) := rfl
@[simp] theorem pk_and (a b : E) : pk (.and a b) env st r = r.map fun p => (p.1.d, p.2) := rfl
@[simp] theorem pk_or (a b : E) : pk (.or a b) env st r = r.map fun p => (p.1.d, p.2) := rfl
@[simp] theorem pk_ix (a i : E) : pk (.ix a i) env st r = r.map fun p => (p.1.d, p.2) := rfl
@[simp] theorem pk_sl (a : E) (lo hi : Eo) : pk (.sl a lo hi) env st r = r.map fun p => (p.1.d, p.2) := rfl
@[simp] theorem pk_call (f : Nat) (es : Es) : pk (.call f es) env st r = r.map fun p => (p.1.d, p.2) := rfl
@[simp] theorem pk_blt (b : Blt) (es : Es) : pk (.blt b es) env st r = r.map fun p => (p.1.d, p.2) := rfl
@[simp] theorem pk_mth (m : Mth) (o : E) (es : Es) : pk (.mth m o es) env st r = r.map fun p => (p.1.d, p.2) := rfl
@[simp] theorem pk_att (o : E) (f : Str) : pk (.att o f) env st r = r.map fun p => (p.1.d, p.2) := rfl
@[simp] theorem pk_met (o : E) (c : Nat) (m : Str) (es : Es) : pk (.met o c m es) env st r = r.map fun p => (p.1.d, p.2) := rfl
@[simp] theorem pk_new (c : Nat) (es : Es) : pk (.new c es) env st r = r.map fun p => (p.1.d, p.2) := rfl
@[simp] theorem pk_lc (vs : List Nat) (t : T) (it : It) (c : Eo) (e : E) : pk (.lc vs t it c e) env st r = r.map fun p => (p.1.d, p.2) := rfl
@[simp] theorem d_val {d : D} : (Rv.val d).d = d := rfl
@[simp] theorem d_lst {xs : List D} : (Rv.lst xs).d = .lst xs := rfl
@[simp] theorem bop_add {i j : Int} : bopR .add (.int i) (.int j) = some (.val (.int (i + j))) := rfl
@[simp] theorem bop_adds {a b : Str} : bopR .add (.str a) (.str b) = if a.length + b.length ≤ 16777216 then some (.val (.str (a ++ b))) else none := rfl
@[simp] theorem bop_addt {a b : List D} : bopR .add (.tup a) (.tup b) = if a.length + b.length ≤ 16777216 then some (.val (.tup (a ++ b))) else none := rfl
@[simp] theorem bop_addl {a b : List D} : bopR .add (.lst a) (.lst b) = if a.length + b.length ≤ 16777216 then some (.lst (a ++ b)) else none := rfl
@[simp] theorem bop_sub {i j : Int} : bopR .sub (.int i) (.int j) = some (.val (.int (i - j))) := rfl
@[simp] theorem bop_mul {i j : Int} : bopR .mul (.int i) (.int j) = if small i || small j || decide (i.natAbs.log2 + j.natAbs.log2 < 1000000) then some (.val (.int (i * j))) else none := rfl
@[simp] theorem bop_fdv {i j : Int} : bopR .fdv (.int i) (.int j) = if decide (0 < j) && decide (j.natAbs.log2 < 9000) then some (.val (.int (i / j))) else none := rfl
@[simp] theorem bop_mod {i j : Int} : bopR .mod (.int i) (.int j) = if 0 < j then some (.val (.int (i % j))) else none := rfl
@[simp] theorem cop_eq {x y : D} : copR st .eq x y = eqD x y := rfl
@[simp] theorem cop_ne {x y : D} : copR st .ne x y = (eqD x y).map not := rfl
@[simp] theorem cop_lt {i j : Int} : copR st .lt (.int i) (.int j) = some (decide (i < j)) := rfl
@[simp] theorem cop_le {i j : Int} : copR st .le (.int i) (.int j) = some (decide (i ≤ j)) := rfl
@[simp] theorem cop_gt {i j : Int} : copR st .gt (.int i) (.int j) = some (decide (j < i)) := rfl
@[simp] theorem cop_ge {i j : Int} : copR st .ge (.int i) (.int j) = some (decide (j ≤ i)) := rfl
@[simp] theorem cop_is {x : D} : copR st .isN x .non = some (decide (x = .non)) := by cases x <;> rfl
@[simp] theorem cop_isn {x : D} : copR st .notN x .non = some (!decide (x = .non)) := by cases x <;> rfl
@[simp] theorem cop_in {x y : D} : copR st .inn x y = inD st x y := by cases x <;> cases y <;> rfl
@[simp] theorem cop_nin {x y : D} : copR st .nin x y = (inD st x y).map not := by cases x <;> cases y <;> rfl
@[simp] theorem items_lst {xs : List D} : items st (.lst xs) = some xs := rfl
@[simp] theorem items_scr {xs : List D} : items st (.scr xs) = some xs := rfl
@[simp] theorem items_tup {xs : List D} : items st (.tup xs) = some xs := rfl
theorem items_ref {n : Nat} {xs : List D} (h : st[n]? = some (.lst xs)) : items st (.ref n) = some xs := by simp only [items, h]
@[simp] theorem tru_non : tru st .non = some false := rfl
@[simp] theorem tru_bl {b : Bool} : tru st (.bl b) = some b := rfl
@[simp] theorem tru_int {i : Int} : tru st (.int i) = some (i != 0) := rfl
@[simp] theorem tru_tup {xs : List D} : tru st (.tup xs) = some (!xs.isEmpty) := rfl
@[simp] theorem tru_lst {xs : List D} : tru st (.lst xs) = some (!xs.isEmpty) := rfl
theorem atI_nat {α : Type} {xs : List α} {k : Nat} : atI xs (k : Int) = xs[k]? := by
  unfold atI ixN
  rw [if_pos (by omega)]
  split
  · simp
  · rename_i h
    have : xs.length ≤ k := by omega
    simp [List.getElem?_eq_none this]
@[simp] theorem atI_0 {α : Type} {xs : List α} : atI xs 0 = xs[0]? := atI_nat (k := 0)
@[simp] theorem atI_2 {α : Type} {xs : List α} : atI xs 2 = xs[2]? := atI_nat (k := 2)
@[simp] theorem atI_3 {α : Type} {xs : List α} : atI xs 3 = xs[3]? := atI_nat (k := 3)
@[simp] theorem atI_4 {α : Type} {xs : List α} : atI xs 4 = xs[4]? := atI_nat (k := 4)
@[simp] theorem atI_5 {α : Type} {xs : List α} : atI xs 5 = xs[5]? := atI_nat (k := 5)
@[simp] theorem atI_6 {α : Type} {xs : List α} : atI xs 6 = xs[6]? := atI_nat (k := 6)
@[simp] theorem atI_7 {α : Type} {xs : List α} : atI xs 7 = xs[7]? := atI_nat (k := 7)
@[simp] theorem atI_m1 {α : Type} {xs : List α} : atI xs (-1) = if xs.length = 0 then none else xs[xs.length - 1]? := by
  unfold atI ixN
  rw [if_neg (by omega)]
  by_cases h : xs.length = 0
  · rw [if_pos h, if_neg (by omega)]
    rfl
  · rw [if_neg h, if_pos (by omega)]
    show xs[(-1 + (xs.length : Int)).toNat]? = _
    congr 1
    omega
@[simp] theorem atI_1 {α : Type} {xs : List α} : atI xs 1 = xs[1]? := atI_nat (k := 1)
theorem ixN_nat {n k : Nat} : ixN n (k : Int) = if k < n then some k else none := by
  unfold ixN
  rw [if_pos (by omega)]
  by_cases h : k < n
  · rw [if_pos (by omega), if_pos h]
    simp
  · rw [if_neg (by omega), if_neg h]
@[simp] theorem ixN_0 {n : Nat} : ixN n 0 = if 0 < n then some 0 else none := ixN_nat (k := 0)
@[simp] theorem ixN_1 {n : Nat} : ixN n 1 = if 1 < n then some 1 else none := ixN_nat (k := 1)
@[simp] theorem ixN_2 {n : Nat} : ixN n 2 = if 2 < n then some 2 else none := ixN_nat (k := 2)
@[simp] theorem ixN_3 {n : Nat} : ixN n 3 = if 3 < n then some 3 else none := ixN_nat (k := 3)
@[simp] theorem ixN_4 {n : Nat} : ixN n 4 = if 4 < n then some 4 else none := ixN_nat (k := 4)
@[simp] theorem ixN_5 {n : Nat} : ixN n 5 = if 5 < n then some 5 else none := ixN_nat (k := 5)
@[simp] theorem ixN_6 {n : Nat} : ixN n 6 = if 6 < n then some 6 else none := ixN_nat (k := 6)
@[simp] theorem ixN_7 {n : Nat} : ixN n 7 = if 7 < n then some 7 else none := ixN_nat (k := 7)
@[simp] theorem ix_tup {xs : List D} {k : Int} : ixR st (.tup xs) (.int k) = atI xs k := rfl
@[simp] theorem ix_lst {xs : List D} {k : Int} : ixR st (.lst xs) (.int k) = atI xs k := rfl
@[simp] theorem ix_scr {xs : List D} {k : Int} : ixR st (.scr xs) (.int k) = atI xs k := rfl
theorem ix_ref {n : Nat} {xs : List D} {k : Int} (h : st[n]? = some (.lst xs)) : ixR st (.ref n) (.int k) = atI xs k := by simp only [ixR, items, h, Option.bind_some]
@[simp] theorem sl_tup {xs : List D} {lo hi : Option Int} : slR st (.tup xs) lo hi = some (.val (.tup (cutD xs lo hi))) := rfl
@[simp] theorem sl_lst {xs : List D} {lo hi : Option Int} : slR st (.lst xs) lo hi = some (.lst (cutD xs lo hi)) := rfl
@[simp] theorem sl_scr {xs : List D} {lo hi : Option Int} : slR st (.scr xs) lo hi = some (.lst (cutD xs lo hi)) := rfl
theorem cut_nat {xs : List D} {k : Nat} : cutD xs (some (k : Int)) none = xs.drop k := by
  unfold cutD
  rw [HT.sIx_nat, HT.sIx_none]
  by_cases h : k ≤ xs.length
  · rw [Nat.min_eq_left h, List.take_of_length_le (by simp)]
  · rw [Nat.min_eq_right (by omega), List.drop_of_length_le (Nat.le_refl _), List.drop_of_length_le (by omega)]
    simp
theorem cut_tonat {xs : List D} {k : Nat} : cutD xs none (some (k : Int)) = xs.take k := by
  unfold cutD
  rw [HT.sIx_nat, HT.sIx_none]
  simp
@[simp] theorem cut_from0 {xs : List D} : cutD xs (some 0) none = xs.drop 0 := cut_nat (k := 0)
@[simp] theorem cut_from1 {xs : List D} : cutD xs (some 1) none = xs.drop 1 := cut_nat (k := 1)
@[simp] theorem cut_from2 {xs : List D} : cutD xs (some 2) none = xs.drop 2 := cut_nat (k := 2)
@[simp] theorem cut_from3 {xs : List D} : cutD xs (some 3) none = xs.drop 3 := cut_nat (k := 3)
@[simp] theorem cut_from4 {xs : List D} : cutD xs (some 4) none = xs.drop 4 := cut_nat (k := 4)
@[simp] theorem cut_to0 {xs : List D} : cutD xs none (some 0) = xs.take 0 := cut_tonat (k := 0)
@[simp] theorem cut_to1 {xs : List D} : cutD xs none (some 1) = xs.take 1 := cut_tonat (k := 1)
@[simp] theorem cut_to2 {xs : List D} : cutD xs none (some 2) = xs.take 2 := cut_tonat (k := 2)
@[simp] theorem cut_to3 {xs : List D} : cutD xs none (some 3) = xs.take 3 := cut_tonat (k := 3)
@[simp] theorem cut_to4 {xs : List D} : cutD xs none (some 4) = xs.take 4 := cut_tonat (k := 4)
@[simp] theorem b_len {xs : List D} : bltR st .len [.lst xs] = some (.val (.int xs.length)) := rfl
@[simp] theorem b_lent {xs : List D} : bltR st .len [.tup xs] = some (.val (.int xs.length)) := rfl
@[simp] theorem b_lens {xs : List D} : bltR st .len [.scr xs] = some (.val (.int xs.length)) := rfl
@[simp] theorem b_intb {b : Bool} : bltR st .int [.bl b] = some (.val (.int (if b then 1 else 0))) := rfl
@[simp] theorem b_int {i : Int} : bltR st .int [.int i] = some (.val (.int i)) := rfl
@[simp] theorem b_list {d : D} : bltR st .list [d] = (items st d).map fun xs => .lst xs := rfl
@[simp] theorem b_tuple {d : D} : bltR st .tuple [d] = (items st d).map fun xs => .val (.tup xs) := rfl
@[simp] theorem b_sorted {xs : List D} : bltR st .sorted [.lst xs] = (sortD xs).map fun ys => .lst ys := rfl
@[simp] theorem b_str {d : D} : bltR st .str [d] = (strD d).map .val := rfl
@[simp] theorem src_lst {xs : List D} : srcOf st (.lst xs) = if xs.length ≤ 1000000 then some (.vals xs) else none := rfl
@[simp] theorem src_tup {xs : List D} : srcOf st (.tup xs) = if xs.length ≤ 1000000 then some (.vals xs) else none := rfl
@[simp] theorem src_scr {xs : List D} : srcOf st (.scr xs) = if xs.length ≤ 1000000 then some (.vals xs) else none := rfl
@[simp] theorem ok_vals {xs : List D} : (Src.vals xs).ok st = true := rfl
@[simp] theorem xs_vals {xs : List D} : (Src.vals xs).xs = xs := rfl
@[simp] theorem setV_lst {xs : List D} {i : Int} {v : D} : setV (.lst xs) (.int i) v = (ixN xs.length i).map fun j => .lst (xs.set j v) := rfl
theorem setO_lst {n : Nat} {xs : List D} {i : Int} {v : D} (h : st[n]? = some (.lst xs)) : setO st (.ref n) (.int i) v = (ixN xs.length i).map fun j => st.set n (.lst (xs.set j v)) := by simp only [setO, h]
end
end Iv

set_option Elab.async false
set_option linter.all false
set_option maxRecDepth 100000
set_option maxHeartbeats 0
/-! the law's defs as terms of Iv; printed by comp.py -/
namespace Lw
open PySem PySem.Spec PyProof.Rows L2 Iv
/-- parts_of -/
def b0 : Fn := ⟨("parts_of", none), "parts_of", ["formula", "word"], 1, (.cons (.asg 1 (.ix (.var 0) (.con (.int 0)))) (.cons (.ifs (.cmp .inn (.var 1) (.glo "LEAVES" (.tup [(.str "value"), (.str "cell"), (.str "range"), (.str "columns"), (.str "gone"), (.str "name"), (.str "param")]))) (.cons (.ret (.lst .nil)) .nil) .nil) (.cons (.ifs (.cmp .eq (.var 1) (.con (.str "own"))) (.cons (.ret (.blt .list (.cons (.ix (.var 0) (.con (.int 2))) .nil))) .nil) .nil) (.cons (.ifs (.cmp .eq (.var 1) (.con (.str "op"))) (.cons (.ret (.blt .list (.cons (.sl (.var 0) (.som (.con (.int 2))) .non) .nil))) .nil) .nil) (.cons (.ifs (.cmp .eq (.var 1) (.con (.str "sumif"))) (.cons (.ret (.lst (.cons (.ix (.var 0) (.con (.int 1))) (.cons (.ix (.var 0) (.con (.int 3))) (.cons (.ix (.var 0) (.con (.int 4))) .nil))))) .nil) .nil) (.cons (.ifs (.cmp .eq (.var 1) (.con (.str "grid"))) (.cons (.ret (.blt .list (.cons (.sl (.var 0) (.som (.con (.int 3))) .non) .nil))) .nil) .nil) (.cons (.ret (.blt .list (.cons (.sl (.var 0) (.som (.con (.int 1))) .non) .nil))) .nil)))))))⟩
/-- with_parts -/
def b1 : Fn := ⟨("with_parts", none), "with_parts", ["formula", "parts", "word"], 2, (.cons (.asg 2 (.ix (.var 0) (.con (.int 0)))) (.cons (.ifs (.cmp .inn (.var 2) (.glo "LEAVES" (.tup [(.str "value"), (.str "cell"), (.str "range"), (.str "columns"), (.str "gone"), (.str "name"), (.str "param")]))) (.cons (.ret (.var 0)) .nil) .nil) (.cons (.ifs (.cmp .eq (.var 2) (.con (.str "own"))) (.cons (.ret (.tup (.cons (.var 2) (.cons (.ix (.var 0) (.con (.int 1))) (.cons (.blt .tuple (.cons (.var 1) .nil)) .nil))))) .nil) .nil) (.cons (.ifs (.cmp .eq (.var 2) (.con (.str "op"))) (.cons (.ret (.bop .add (.sl (.var 0) .non (.som (.con (.int 2)))) (.blt .tuple (.cons (.var 1) .nil)))) .nil) .nil) (.cons (.ifs (.cmp .eq (.var 2) (.con (.str "sumif"))) (.cons (.ret (.tup (.cons (.var 2) (.cons (.ix (.var 1) (.con (.int 0))) (.cons (.ix (.var 0) (.con (.int 2))) (.cons (.ix (.var 1) (.con (.int 1))) (.cons (.ix (.var 1) (.con (.int 2))) .nil))))))) .nil) .nil) (.cons (.ifs (.cmp .eq (.var 2) (.con (.str "grid"))) (.cons (.ret (.bop .add (.sl (.var 0) .non (.som (.con (.int 3)))) (.blt .tuple (.cons (.var 1) .nil)))) .nil) .nil) (.cons (.ret (.bop .add (.tup (.cons (.var 2) .nil)) (.blt .tuple (.cons (.var 1) .nil)))) .nil)))))))⟩
/-- corner_away -/
def b2 : Fn := ⟨("corner_away", none), "corner_away", ["corner", "rows", "columns", "row", "column"], 3, (.cons (.asg 3 (.bop .add (.ix (.var 0) (.con (.int 0))) (.bop .mul (.var 1) (.blt .int (.cons (.nt (.ix (.var 0) (.con (.int 2)))) .nil))))) (.cons (.asg 4 (.bop .add (.ix (.var 0) (.con (.int 1))) (.bop .mul (.var 2) (.blt .int (.cons (.nt (.ix (.var 0) (.con (.int 3)))) .nil))))) (.cons (.ifs (.or (.nt (.chain .le .le (.con (.int 1)) (.var 3) (.glo "LAST_ROW" (.int 16)))) (.nt (.chain .le .le (.con (.int 1)) (.var 4) (.glo "LAST_COLUMN" (.int 8))))) (.cons (.ret (.con .non)) .nil) .nil) (.cons (.ret (.bop .add (.tup (.cons (.var 3) (.cons (.var 4) .nil))) (.sl (.var 0) (.som (.con (.int 2))) .non))) .nil))))⟩
/-- corners_in_order -/
def b3 : Fn := ⟨("corners_in_order", none), "corners_in_order", ["one", "other", "low", "high", "k"], 2, (.cons (.asgO 2 (.lst (.cons (.ix (.var 0) (.con (.int 0))) (.cons (.ix (.var 0) (.con (.int 1))) (.cons (.ix (.var 0) (.con (.int 2))) (.cons (.ix (.var 0) (.con (.int 3))) .nil)))))) (.cons (.asgO 3 (.lst (.cons (.ix (.var 1) (.con (.int 0))) (.cons (.ix (.var 1) (.con (.int 1))) (.cons (.ix (.var 1) (.con (.int 2))) (.cons (.ix (.var 1) (.con (.int 3))) .nil)))))) (.cons (.for_ (.nm 4) (.rng1 (.con (.int 2))) (.cons (.ifs (.cmp .gt (.ix (.var 2) (.var 4)) (.ix (.var 3) (.var 4))) (.cons (.tgt (.tup (.cons (.ix (.var 2) (.var 4)) (.cons (.ix (.var 3) (.var 4)) .nil))) (.tup (.cons (.ix (.var 3) (.var 4)) (.cons (.ix (.var 2) (.var 4)) .nil)))) (.cons (.tgt (.tup (.cons (.ix (.var 2) (.bop .add (.var 4) (.con (.int 2)))) (.cons (.ix (.var 3) (.bop .add (.var 4) (.con (.int 2)))) .nil))) (.tup (.cons (.ix (.var 3) (.bop .add (.var 4) (.con (.int 2)))) (.cons (.ix (.var 2) (.bop .add (.var 4) (.con (.int 2)))) .nil)))) .nil)) .nil) .nil)) (.cons (.ret (.tup (.cons (.blt .tuple (.cons (.var 2) .nil)) (.cons (.blt .tuple (.cons (.var 3) .nil)) .nil)))) .nil))))⟩
/-- copied_formula -/
def b4 : Fn := ⟨("copied_formula", none), "copied_formula", ["formula", "rows", "columns", "word", "corner", "one", "other", "part"], 3, (.cons (.asg 3 (.ix (.var 0) (.con (.int 0)))) (.cons (.ifs (.cmp .eq (.var 3) (.con (.str "cell"))) (.cons (.asg 4 (.call 2 (.cons (.ix (.var 0) (.con (.int 2))) (.cons (.var 1) (.cons (.var 2) .nil))))) (.cons (.ifs (.cmp .isN (.var 4) (.con .non)) (.cons (.ret (.glo "GONE" (.tup [(.str "gone")]))) .nil) .nil) (.cons (.ret (.tup (.cons (.var 3) (.cons (.ix (.var 0) (.con (.int 1))) (.cons (.var 4) .nil))))) .nil))) .nil) (.cons (.ifs (.cmp .eq (.var 3) (.con (.str "range"))) (.cons (.asg 5 (.call 2 (.cons (.ix (.var 0) (.con (.int 2))) (.cons (.var 1) (.cons (.var 2) .nil))))) (.cons (.asg 6 (.call 2 (.cons (.ix (.var 0) (.con (.int 3))) (.cons (.var 1) (.cons (.var 2) .nil))))) (.cons (.ifs (.or (.cmp .isN (.var 5) (.con .non)) (.cmp .isN (.var 6) (.con .non))) (.cons (.ret (.glo "GONE" (.tup [(.str "gone")]))) .nil) .nil) (.cons (.ret (.bop .add (.tup (.cons (.var 3) (.cons (.ix (.var 0) (.con (.int 1))) .nil))) (.call 3 (.cons (.var 5) (.cons (.var 6) .nil))))) .nil)))) .nil) (.cons (.ifs (.cmp .eq (.var 3) (.con (.str "columns"))) (.cons (.asg 5 (.call 2 (.cons (.tup (.cons (.con (.int 1)) (.cons (.ix (.ix (.var 0) (.con (.int 2))) (.con (.int 0))) (.cons (.con (.bl true)) (.cons (.ix (.ix (.var 0) (.con (.int 2))) (.con (.int 1))) .nil))))) (.cons (.var 1) (.cons (.var 2) .nil))))) (.cons (.asg 6 (.call 2 (.cons (.tup (.cons (.con (.int 1)) (.cons (.ix (.ix (.var 0) (.con (.int 3))) (.con (.int 0))) (.cons (.con (.bl true)) (.cons (.ix (.ix (.var 0) (.con (.int 3))) (.con (.int 1))) .nil))))) (.cons (.var 1) (.cons (.var 2) .nil))))) (.cons (.ifs (.or (.cmp .isN (.var 5) (.con .non)) (.cmp .isN (.var 6) (.con .non))) (.cons (.ret (.glo "GONE" (.tup [(.str "gone")]))) .nil) .nil) (.cons (.tgt (.tup (.cons (.nm 5) (.cons (.nm 6) .nil))) (.call 3 (.cons (.var 5) (.cons (.var 6) .nil)))) (.cons (.ret (.tup (.cons (.var 3) (.cons (.ix (.var 0) (.con (.int 1))) (.cons (.tup (.cons (.ix (.var 5) (.con (.int 1))) (.cons (.ix (.var 5) (.con (.int 3))) .nil))) (.cons (.tup (.cons (.ix (.var 6) (.con (.int 1))) (.cons (.ix (.var 6) (.con (.int 3))) .nil))) .nil)))))) .nil))))) .nil) (.cons (.ret (.call 1 (.cons (.var 0) (.cons (.lc [7] (.nm 7) (.seq (.call 0 (.cons (.var 0) .nil))) .non (.call 4 (.cons (.var 7) (.cons (.var 1) (.cons (.var 2) .nil))))) .nil)))) .nil)))))⟩
/-- _law_cell_at -/
def b5 : Fn := ⟨("_law_cell_at", none), "_law_cell_at", ["script", "k"], 2, (.cons (.ifs (.cmp .lt (.var 1) (.blt .len (.cons (.var 0) .nil))) (.cons (.ret (.ix (.var 0) (.var 1))) .nil) .nil) (.cons (.ret (.con (.int 0))) .nil))⟩
/-- _law_pen -/
def b6 : Fn := ⟨("_law_pen", none), "_law_pen", ["script", "k"], 2, (.cons (.ret (.pro (.lst (.cons (.call 5 (.cons (.var 0) (.cons (.var 1) .nil))) (.cons (.cmp .eq (.bop .mod (.call 5 (.cons (.var 0) (.cons (.con (.int 0)) .nil))) (.con (.int 2))) (.con (.int 0))) (.cons (.var 1) .nil)))))) .nil)⟩
/-- _law_draw -/
def b7 : Fn := ⟨("_law_draw", none), "_law_draw", ["pen", "many", "number", "found"], 2, (.cons (.ifs (.ix (.var 0) (.con (.int 1))) (.cons (.asg 3 (.bop .mod (.ix (.var 0) (.con (.int 0))) (.var 1))) (.cons (.tgt (.ix (.var 0) (.con (.int 0))) (.bop .fdv (.ix (.var 0) (.con (.int 0))) (.var 1))) (.cons (.ret (.var 3)) .nil))) .nil) (.cons (.tgt (.ix (.var 0) (.con (.int 2))) (.bop .add (.ix (.var 0) (.con (.int 2))) (.con (.int 1)))) (.cons (.asg 2 (.bop .mod (.bop .mul (.bop .add (.bop .mod (.ix (.var 0) (.con (.int 0))) (.con (.int 2147483647))) (.con (.int 1))) (.bop .add (.bop .mul (.ix (.var 0) (.con (.int 2))) (.ix (.var 0) (.con (.int 2)))) (.con (.int 48271)))) (.con (.int 2147483629)))) (.cons (.asg 2 (.bop .mod (.bop .mul (.bop .add (.var 2) (.bop .mul (.con (.int 3)) (.ix (.var 0) (.con (.int 2))))) (.bop .add (.var 2) (.con (.int 11)))) (.con (.int 2147483587)))) (.cons (.ret (.bop .mod (.bop .fdv (.var 2) (.con (.int 7))) (.var 1))) .nil)))))⟩
/-- _law_corner -/
def b8 : Fn := ⟨("_law_corner", none), "_law_corner", ["pen"], 1, (.cons (.ret (.tup (.cons (.bop .add (.con (.int 1)) (.call 7 (.cons (.var 0) (.cons (.con (.int 16)) .nil)))) (.cons (.bop .add (.con (.int 1)) (.call 7 (.cons (.var 0) (.cons (.con (.int 8)) .nil)))) (.cons (.cmp .eq (.call 7 (.cons (.var 0) (.cons (.con (.int 2)) .nil))) (.con (.int 1))) (.cons (.cmp .eq (.call 7 (.cons (.var 0) (.cons (.con (.int 2)) .nil))) (.con (.int 1))) .nil)))))) .nil)⟩
/-- _law_ordered -/
def b9 : Fn := ⟨("_law_ordered", none), "_law_ordered", ["one", "other", "rows", "columns"], 2, (.cons (.asg 2 (.blt .sorted (.cons (.lst (.cons (.tup (.cons (.ix (.var 0) (.con (.int 0))) (.cons (.ix (.var 0) (.con (.int 2))) .nil))) (.cons (.tup (.cons (.ix (.var 1) (.con (.int 0))) (.cons (.ix (.var 1) (.con (.int 2))) .nil))) .nil))) .nil))) (.cons (.asg 3 (.blt .sorted (.cons (.lst (.cons (.tup (.cons (.ix (.var 0) (.con (.int 1))) (.cons (.ix (.var 0) (.con (.int 3))) .nil))) (.cons (.tup (.cons (.ix (.var 1) (.con (.int 1))) (.cons (.ix (.var 1) (.con (.int 3))) .nil))) .nil))) .nil))) (.cons (.asg 0 (.tup (.cons (.ix (.ix (.var 2) (.con (.int 0))) (.con (.int 0))) (.cons (.ix (.ix (.var 3) (.con (.int 0))) (.con (.int 0))) (.cons (.ix (.ix (.var 2) (.con (.int 0))) (.con (.int 1))) (.cons (.ix (.ix (.var 3) (.con (.int 0))) (.con (.int 1))) .nil)))))) (.cons (.ret (.tup (.cons (.var 0) (.cons (.tup (.cons (.ix (.ix (.var 2) (.con (.int 1))) (.con (.int 0))) (.cons (.ix (.ix (.var 3) (.con (.int 1))) (.con (.int 0))) (.cons (.ix (.ix (.var 2) (.con (.int 1))) (.con (.int 1))) (.cons (.ix (.ix (.var 3) (.con (.int 1))) (.con (.int 1))) .nil))))) .nil)))) .nil))))⟩
/-- _law_reference -/
def b10 : Fn := ⟨("_law_reference", none), "_law_reference", ["script", "k", "pen", "sheet", "kind", "one", "other"], 2, (.cons (.asg 2 (.call 6 (.cons (.var 0) (.cons (.bop .add (.con (.int 2)) (.var 1)) .nil)))) (.cons (.asg 3 (.ix (.lst (.cons (.con .non) (.cons (.con (.str "a")) (.cons (.con (.str "bc")) .nil)))) (.call 7 (.cons (.var 2) (.cons (.con (.int 3)) .nil))))) (.cons (.asg 4 (.call 7 (.cons (.var 2) (.cons (.con (.int 4)) .nil)))) (.cons (.tgt (.tup (.cons (.nm 5) (.cons (.nm 6) .nil))) (.call 9 (.cons (.call 8 (.cons (.var 2) .nil)) (.cons (.call 8 (.cons (.var 2) .nil)) .nil)))) (.cons (.ifs (.cmp .lt (.var 4) (.con (.int 2))) (.cons (.ret (.tup (.cons (.con (.str "cell")) (.cons (.var 3) (.cons (.var 5) .nil))))) .nil) .nil) (.cons (.ifs (.cmp .eq (.var 4) (.con (.int 2))) (.cons (.ret (.tup (.cons (.con (.str "range")) (.cons (.var 3) (.cons (.var 5) (.cons (.var 6) .nil)))))) .nil) .nil) (.cons (.ret (.tup (.cons (.con (.str "columns")) (.cons (.var 3) (.cons (.tup (.cons (.ix (.var 5) (.con (.int 1))) (.cons (.ix (.var 5) (.con (.int 3))) .nil))) (.cons (.tup (.cons (.ix (.var 6) (.con (.int 1))) (.cons (.ix (.var 6) (.con (.int 3))) .nil))) .nil)))))) .nil)))))))⟩
/-- _law_moved -/
def b11 : Fn := ⟨("_law_moved", none), "_law_moved", ["at", "way", "stands", "last"], 4, (.cons (.ifs (.var 2) (.cons (.ret (.var 0)) .nil) .nil) (.cons (.ifs (.or (.cmp .lt (.bop .add (.var 0) (.var 1)) (.con (.int 1))) (.cmp .gt (.bop .add (.var 0) (.var 1)) (.var 3))) (.cons (.ret (.con .non)) .nil) .nil) (.cons (.ret (.bop .add (.var 0) (.var 1))) .nil)))⟩
/-- _law_pair -/
def b12 : Fn := ⟨("_law_pair", none), "_law_pair", ["one", "other", "way", "last", "first", "second"], 4, (.cons (.asg 4 (.call 11 (.cons (.ix (.var 0) (.con (.int 0))) (.cons (.var 2) (.cons (.ix (.var 0) (.con (.int 1))) (.cons (.var 3) .nil)))))) (.cons (.asg 5 (.call 11 (.cons (.ix (.var 1) (.con (.int 0))) (.cons (.var 2) (.cons (.ix (.var 1) (.con (.int 1))) (.cons (.var 3) .nil)))))) (.cons (.ifs (.or (.cmp .isN (.var 4) (.con .non)) (.cmp .isN (.var 5) (.con .non))) (.cons (.ret (.con .non)) .nil) .nil) (.cons (.ifs (.cmp .le (.var 4) (.var 5)) (.cons (.ret (.lst (.cons (.tup (.cons (.var 4) (.cons (.ix (.var 0) (.con (.int 1))) .nil))) (.cons (.tup (.cons (.var 5) (.cons (.ix (.var 1) (.con (.int 1))) .nil))) .nil)))) .nil) .nil) (.cons (.ret (.lst (.cons (.tup (.cons (.var 5) (.cons (.ix (.var 1) (.con (.int 1))) .nil))) (.cons (.tup (.cons (.var 4) (.cons (.ix (.var 0) (.con (.int 1))) .nil))) .nil)))) .nil)))))⟩
/-- _law_due -/
def b13 : Fn := ⟨("_law_due", none), "_law_due", ["reference", "rows", "columns", "one", "other", "down", "right", "first", "word", "sheet", "found"], 3, (.cons (.tgt (.tup (.cons (.nm 8) (.cons (.nm 9) .nil))) (.sl (.var 0) .non (.som (.con (.int 2))))) (.cons (.ifs (.cmp .eq (.var 8) (.con (.str "columns"))) (.cons (.asg 10 (.call 12 (.cons (.ix (.var 0) (.con (.int 2))) (.cons (.ix (.var 0) (.con (.int 3))) (.cons (.var 2) (.cons (.con (.int 8)) .nil)))))) (.cons (.ifs (.cmp .isN (.var 10) (.con .non)) (.cons (.ret (.tup (.cons (.con (.str "gone")) .nil))) .nil) .nil) (.cons (.ret (.tup (.cons (.var 8) (.cons (.var 9) (.cons (.ix (.var 10) (.con (.int 0))) (.cons (.ix (.var 10) (.con (.int 1))) .nil)))))) .nil))) .nil) (.cons (.asg 3 (.ix (.var 0) (.con (.int 2)))) (.cons (.asg 4 (.ix (.var 0) (.neg (.con (.int 1))))) (.cons (.asg 5 (.call 12 (.cons (.tup (.cons (.ix (.var 3) (.con (.int 0))) (.cons (.ix (.var 3) (.con (.int 2))) .nil))) (.cons (.tup (.cons (.ix (.var 4) (.con (.int 0))) (.cons (.ix (.var 4) (.con (.int 2))) .nil))) (.cons (.var 1) (.cons (.con (.int 16)) .nil)))))) (.cons (.asg 6 (.call 12 (.cons (.tup (.cons (.ix (.var 3) (.con (.int 1))) (.cons (.ix (.var 3) (.con (.int 3))) .nil))) (.cons (.tup (.cons (.ix (.var 4) (.con (.int 1))) (.cons (.ix (.var 4) (.con (.int 3))) .nil))) (.cons (.var 2) (.cons (.con (.int 8)) .nil)))))) (.cons (.ifs (.or (.cmp .isN (.var 5) (.con .non)) (.cmp .isN (.var 6) (.con .non))) (.cons (.ret (.tup (.cons (.con (.str "gone")) .nil))) .nil) .nil) (.cons (.asg 7 (.tup (.cons (.ix (.ix (.var 5) (.con (.int 0))) (.con (.int 0))) (.cons (.ix (.ix (.var 6) (.con (.int 0))) (.con (.int 0))) (.cons (.ix (.ix (.var 5) (.con (.int 0))) (.con (.int 1))) (.cons (.ix (.ix (.var 6) (.con (.int 0))) (.con (.int 1))) .nil)))))) (.cons (.ifs (.cmp .eq (.var 8) (.con (.str "cell"))) (.cons (.ret (.tup (.cons (.var 8) (.cons (.var 9) (.cons (.var 7) .nil))))) .nil) .nil) (.cons (.ret (.tup (.cons (.var 8) (.cons (.var 9) (.cons (.var 7) (.cons (.tup (.cons (.ix (.ix (.var 5) (.con (.int 1))) (.con (.int 0))) (.cons (.ix (.ix (.var 6) (.con (.int 1))) (.con (.int 0))) (.cons (.ix (.ix (.var 5) (.con (.int 1))) (.con (.int 1))) (.cons (.ix (.ix (.var 6) (.con (.int 1))) (.con (.int 1))) .nil))))) .nil)))))) .nil))))))))))⟩
/-- _law_formula -/
def b14 : Fn := ⟨("_law_formula", none), "_law_formula", ["parts", "way", "one", "other", "third", "asked", "some", "inner"], 2, (.cons (.ifs (.cmp .eq (.var 1) (.con (.int 1))) (.cons (.asg 5 (.tup (.cons (.con (.str "op")) (.cons (.con (.str "<")) (.cons (.ix (.var 0) (.con (.int 0))) (.cons (.tup (.cons (.con (.str "value")) (.cons (.tup (.cons (.con (.str "number")) (.cons (.con (.int 2)) (.cons (.con (.int 1)) .nil)))) .nil))) .nil)))))) (.cons (.asg 6 (.tup (.cons (.con (.str "sumif")) (.cons (.ix (.var 0) (.con (.int 2))) (.cons (.con (.str "<")) (.cons (.tup (.cons (.con (.str "neg")) (.cons (.ix (.var 0) (.con (.int 5))) .nil))) (.cons (.tup (.cons (.con (.str "outer")) (.cons (.ix (.var 0) (.con (.int 3))) .nil))) .nil))))))) (.cons (.asg 4 (.tup (.cons (.con (.str "find")) (.cons (.tup (.cons (.con (.str "least")) (.cons (.ix (.var 0) (.con (.int 4))) .nil))) (.cons (.tup (.cons (.con (.str "stack")) (.cons (.ix (.var 0) (.con (.int 5))) (.cons (.ix (.var 0) (.con (.int 0))) .nil)))) (.cons (.ix (.var 0) (.con (.int 1))) .nil)))))) (.cons (.asg 7 (.tup (.cons (.var 6) (.cons (.tup (.cons (.con (.str "grid")) (.cons (.con (.int 2)) (.cons (.con (.int 3)) (.cons (.ix (.var 0) (.con (.int 4))) (.cons (.tup (.cons (.con (.str "turn")) (.cons (.ix (.var 0) (.con (.int 5))) .nil))) .nil)))))) (.cons (.var 4) .nil))))) (.cons (.ret (.tup (.cons (.con (.str "if")) (.cons (.var 5) (.cons (.tup (.cons (.con (.str "neg")) (.cons (.ix (.var 0) (.con (.int 1))) .nil))) (.cons (.tup (.cons (.con (.str "own")) (.cons (.con (.str "f")) (.cons (.var 7) .nil)))) .nil)))))) .nil))))) .nil) (.cons (.asg 2 (.tup (.cons (.con (.str "op")) (.cons (.con (.str "*")) (.cons (.tup (.cons (.con (.str "turn")) (.cons (.ix (.var 0) (.con (.int 0))) .nil))) (.cons (.tup (.cons (.con (.str "neg")) (.cons (.ix (.var 0) (.con (.int 1))) .nil))) .nil)))))) (.cons (.asg 3 (.tup (.cons (.con (.str "sumif")) (.cons (.ix (.var 0) (.con (.int 2))) (.cons (.con (.str "<")) (.cons (.tup (.cons (.con (.str "value")) (.cons (.tup (.cons (.con (.str "text")) (.cons (.con (.str "a 1")) .nil))) .nil))) (.cons (.tup (.cons (.con (.str "outer")) (.cons (.ix (.var 0) (.con (.int 3))) .nil))) .nil))))))) (.cons (.asg 4 (.tup (.cons (.con (.str "find")) (.cons (.tup (.cons (.con (.str "least")) (.cons (.ix (.var 0) (.con (.int 4))) .nil))) (.cons (.tup (.cons (.con (.str "stack")) (.cons (.ix (.var 0) (.con (.int 5))) (.cons (.ix (.var 0) (.con (.int 0))) .nil)))) (.cons (.ix (.var 0) (.con (.int 1))) .nil)))))) (.cons (.ret (.tup (.cons (.con (.str "if")) (.cons (.tup (.cons (.con (.str "name")) (.cons (.con (.str "n")) .nil))) (.cons (.var 2) (.cons (.tup (.cons (.con (.str "own")) (.cons (.con (.str "f")) (.cons (.tup (.cons (.var 3) (.cons (.tup (.cons (.con (.str "grid")) (.cons (.con (.int 2)) (.cons (.con (.int 3)) (.cons (.ix (.var 0) (.con (.int 4))) (.cons (.tup (.cons (.con (.str "count")) (.cons (.ix (.var 0) (.con (.int 5))) .nil))) .nil)))))) (.cons (.var 4) .nil)))) .nil)))) .nil)))))) .nil)))))⟩
/-- _law_standing -/
def b15 : Fn := ⟨("_law_standing", none), "_law_standing", ["reference", "corner"], 1, (.cons (.ret (.lc [1] (.nm 1) (.seq (.sl (.var 0) (.som (.con (.int 2))) .non)) .non (.sl (.var 1) (.som (.bop .fdv (.blt .len (.cons (.var 1) .nil)) (.con (.int 2)))) .non))) .nil)⟩
/-- _law_exchanged -/
def b16 : Fn := ⟨("_law_exchanged", none), "_law_exchanged", ["parts", "rows", "columns", "part", "due"], 3, (.cons (.for_ (.nm 3) (.seq (.var 0)) (.cons (.asg 4 (.call 13 (.cons (.var 3) (.cons (.var 1) (.cons (.var 2) .nil))))) (.cons (.ifs (.or (.cmp .eq (.var 4) (.tup (.cons (.con (.str "gone")) .nil))) (.cmp .ne (.call 15 (.cons (.var 4) .nil)) (.call 15 (.cons (.var 3) .nil)))) (.cons (.ret (.con (.bl true))) .nil) .nil) .nil))) (.cons (.ret (.con (.bl false))) .nil))⟩
/-- _law_right -/
def b17 : Fn := ⟨("_law_right", none), "_law_right", ["script", "parts", "way", "formula", "pen", "one", "other", "rows", "columns", "due", "there", "both", "at_once", "part"], 3, (.cons (.asg 3 (.call 14 (.cons (.var 1) (.cons (.var 2) .nil)))) (.cons (.asg 4 (.call 6 (.cons (.var 0) (.cons (.con (.int 1)) .nil)))) (.cons (.asg 5 (.tup (.cons (.bop .sub (.call 7 (.cons (.var 4) (.cons (.con (.int 31)) .nil))) (.con (.int 15))) (.cons (.bop .sub (.call 7 (.cons (.var 4) (.cons (.con (.int 15)) .nil))) (.con (.int 7))) .nil)))) (.cons (.asg 6 (.tup (.cons (.bop .sub (.call 7 (.cons (.var 4) (.cons (.con (.int 9)) .nil))) (.con (.int 4))) (.cons (.bop .sub (.call 7 (.cons (.var 4) (.cons (.con (.int 5)) .nil))) (.con (.int 2))) .nil)))) (.cons (.ifs (.cmp .eq (.call 7 (.cons (.var 4) (.cons (.con (.int 2)) .nil))) (.con (.int 1))) (.cons (.asg 5 (.tup (.cons (.bop .fdv (.ix (.var 5) (.con (.int 0))) (.con (.int 5))) (.cons (.bop .fdv (.ix (.var 5) (.con (.int 1))) (.con (.int 4))) .nil)))) .nil) .nil) (.cons (.for_ (.tup (.cons (.nm 7) (.cons (.nm 8) .nil))) (.seq (.tup (.cons (.var 5) (.cons (.var 6) (.cons (.tup (.cons (.con (.int 0)) (.cons (.con (.int 0)) .nil))) .nil))))) (.cons (.asg 9 (.call 14 (.cons (.lc [13] (.nm 13) (.seq (.var 1)) .non (.call 13 (.cons (.var 13) (.cons (.var 7) (.cons (.var 8) .nil))))) (.cons (.var 2) .nil)))) (.cons (.ifs (.cmp .ne (.call 4 (.cons (.var 3) (.cons (.var 7) (.cons (.var 8) .nil)))) (.var 9)) (.cons (.ret (.con (.bl false))) .nil) .nil) .nil))) (.cons (.ifs (.cmp .ne (.var 3) (.call 4 (.cons (.var 3) (.cons (.con (.int 0)) (.cons (.con (.int 0)) .nil))))) (.cons (.ret (.con (.bl false))) .nil) .nil) (.cons (.ifs (.nt (.call 16 (.cons (.var 1) (.cons (.ix (.var 5) (.con (.int 0))) (.cons (.ix (.var 5) (.con (.int 1))) .nil))))) (.cons (.asg 10 (.call 4 (.cons (.var 3) (.cons (.ix (.var 5) (.con (.int 0))) (.cons (.ix (.var 5) (.con (.int 1))) .nil))))) (.cons (.ifs (.cmp .ne (.call 4 (.cons (.var 10) (.cons (.bop .sub (.con (.int 0)) (.ix (.var 5) (.con (.int 0)))) (.cons (.bop .sub (.con (.int 0)) (.ix (.var 5) (.con (.int 1)))) .nil)))) (.var 3)) (.cons (.ret (.con (.bl false))) .nil) .nil) (.cons (.asg 11 (.call 4 (.cons (.var 10) (.cons (.ix (.var 6) (.con (.int 0))) (.cons (.ix (.var 6) (.con (.int 1))) .nil))))) (.cons (.asg 12 (.call 4 (.cons (.var 3) (.cons (.bop .add (.ix (.var 5) (.con (.int 0))) (.ix (.var 6) (.con (.int 0)))) (.cons (.bop .add (.ix (.var 5) (.con (.int 1))) (.ix (.var 6) (.con (.int 1)))) .nil))))) (.cons (.ifs (.and (.cmp .nin (.con (.str "gone")) (.blt .str (.cons (.var 11) .nil))) (.cmp .ne (.var 11) (.var 12))) (.cons (.ret (.con (.bl false))) .nil) .nil) .nil))))) .nil) (.cons (.ret (.con (.bl true))) .nil)))))))))⟩
/-- law -/
def b18 : Fn := ⟨("law", none), "law", ["script", "parts", "k"], 1, (.cons (.asg 1 (.lc [2] (.nm 2) (.rng1 (.con (.int 6))) .non (.call 10 (.cons (.var 0) (.cons (.var 2) .nil))))) (.cons (.ret (.and (.call 17 (.cons (.var 0) (.cons (.var 1) (.cons (.con (.int 0)) .nil)))) (.call 17 (.cons (.var 0) (.cons (.var 1) (.cons (.con (.int 1)) .nil)))))) .nil))⟩
def fns : List Fn := [b0, b1, b2, b3, b4, b5, b6, b7, b8, b9, b10, b11, b12, b13, b14, b15, b16, b17, b18]
def S : Sta := ⟨⟨fns, []⟩, [("LEAVES", (.tup [(.str "value"), (.str "cell"), (.str "range"), (.str "columns"), (.str "gone"), (.str "name"), (.str "param")])), ("LAST_ROW", (.int 16)), ("LAST_COLUMN", (.int 8)), ("GONE", (.tup [(.str "gone")]))], ["int", "len", "list", "range", "sorted", "str", "tuple"]⟩
def top (i : Nat) : Stmt := PySem.Challenge.pw_freshsheet_k56_formulas_copied.main.body.getD i (.Pass ⟨0, 0, 0, 0⟩)
def dfs0 : List He.DefD := [
  ⟨("parts_of", none), "parts_of", "parts_of", defArgs (top 2), defBody (top 2), defScope (top 2), [], []⟩,
  ⟨("with_parts", none), "with_parts", "with_parts", defArgs (top 3), defBody (top 3), defScope (top 3), [], []⟩,
  ⟨("corner_away", none), "corner_away", "corner_away", defArgs (top 8), defBody (top 8), defScope (top 8), [], []⟩,
  ⟨("corners_in_order", none), "corners_in_order", "corners_in_order", defArgs (top 9), defBody (top 9), defScope (top 9), [], []⟩,
  ⟨("copied_formula", none), "copied_formula", "copied_formula", defArgs (top 10), defBody (top 10), defScope (top 10), [], []⟩,
  ⟨("_law_cell_at", none), "_law_cell_at", "_law_cell_at", defArgs (top 12), defBody (top 12), defScope (top 12), [], []⟩,
  ⟨("_law_pen", none), "_law_pen", "_law_pen", defArgs (top 13), defBody (top 13), defScope (top 13), [], []⟩,
  ⟨("_law_draw", none), "_law_draw", "_law_draw", defArgs (top 14), defBody (top 14), defScope (top 14), [], []⟩,
  ⟨("_law_corner", none), "_law_corner", "_law_corner", defArgs (top 15), defBody (top 15), defScope (top 15), [], []⟩,
  ⟨("_law_ordered", none), "_law_ordered", "_law_ordered", defArgs (top 16), defBody (top 16), defScope (top 16), [], []⟩,
  ⟨("_law_reference", none), "_law_reference", "_law_reference", defArgs (top 17), defBody (top 17), defScope (top 17), [], []⟩,
  ⟨("_law_moved", none), "_law_moved", "_law_moved", defArgs (top 18), defBody (top 18), defScope (top 18), [], []⟩,
  ⟨("_law_pair", none), "_law_pair", "_law_pair", defArgs (top 19), defBody (top 19), defScope (top 19), [], []⟩,
  ⟨("_law_due", none), "_law_due", "_law_due", defArgs (top 20), defBody (top 20), defScope (top 20), [], []⟩,
  ⟨("_law_formula", none), "_law_formula", "_law_formula", defArgs (top 21), defBody (top 21), defScope (top 21), [], []⟩,
  ⟨("_law_standing", none), "_law_standing", "_law_standing", defArgs (top 22), defBody (top 22), defScope (top 22), [], []⟩,
  ⟨("_law_exchanged", none), "_law_exchanged", "_law_exchanged", defArgs (top 23), defBody (top 23), defScope (top 23), [], []⟩,
  ⟨("_law_right", none), "_law_right", "_law_right", defArgs (top 24), defBody (top 24), defScope (top 24), [], []⟩,
  ⟨("law", none), "law", "law", defArgs (top 25), defBody (top 25), defScope (top 25), [], []⟩]
def dfs : List He.DefD := dfs0
theorem ck : ckDefs S S.Tb.fns dfs = true := by kernel_rfl
def loose0 : List PySem.Str := ["LEAVES", "parts_of", "with_parts", "LAST_ROW", "LAST_COLUMN", "GONE", "corner_away", "corners_in_order", "copied_formula", "_law_cell_at", "_law_pen", "_law_draw", "_law_corner", "_law_ordered", "_law_reference", "_law_moved", "_law_pair", "_law_due", "_law_formula", "_law_standing"]
def loose1 : List PySem.Str := ["_law_exchanged", "_law_right"]
def loose : List PySem.Str := loose0 ++ loose1
abbrev R : PySem.W.OpenRow := PySem.W.OpenLaw.row PySem.Challenge.rw_freshsheet_k56_formulas_copied
def fa : List He.Fa := faOf S
abbrev hk : PySem.W.Hook := He.hookX 4 (faOf S) dfs [] [] (exOf S)
def ob (s : PySem.W.SharedT) : He.AlX := He.obsX 4 (faOf S) dfs [] [] (exOf S) (HandSHeadRun.getT s)
theorem ob_eq (s : PySem.W.SharedT) : ob s = hk.obs s.abs := He.obsX_eq (HandSHeadRun.getT_eq s)
abbrev Runs (w : World) : Prop := HandSHeadRun.RunEq R (PySem.W.view R.prog [25]) hk ob 4000 loose w
theorem runF (w : World) : Runs (w.withFollow "special-get-raises" false) := by
  intro os
  kernel_rfl
theorem runT (w : World) : Runs (w.withFollow "special-get-raises" true) := by
  intro os
  kernel_rfl
theorem run (w : World) : Runs w := PySem.W.byRow2 "special-get-raises" (P := Runs) runF runT w
def atLaw : Nat := 18
end Lw

set_option Elab.async false
set_option linter.all false
set_option maxRecDepth 100000
set_option maxHeartbeats 0
/-! k56, part A: what the defs compute. -/
namespace Lw
open PySem PySem.Spec PyProof.Rows L2 Iv
theorem call_eq {wf n f : Nat} {fn : Fn} {args : List D} {st : Sto} (h : S.Tb.fns[f]? = some fn) : (calls S.Tb wf (n + 1)).call f args st = fn.run (calls S.Tb wf n) wf args st := by
  simp only [calls, h]
theorem run_eq {f : Fn} {C : Calls} {wf : Nat} {args : List D} {st : Sto} (h : args.length = f.np) : f.run C wf args st = (exSs C wf f.body (args.map (fun d => some (.val d)) ++ List.replicate (f.N.length - f.np) none) st).bnd fun p => match p.1 with
    | .rt r => some (r, p.2.2)
    | .nx => some (.val .non, p.2.2)
    | _ => none := by
  unfold Fn.run
  rw [if_pos h]
  rfl
theorem small_of {i : Int} (h1 : -(2 ^ 64) < i) (h2 : i < 2 ^ 64) : small i = true := by
  unfold small
  simp only [Bool.and_eq_true, decide_eq_true_eq]
  exact ⟨h1, h2⟩
@[simp] theorem small_bit {b : Prop} [Decidable b] : small (if b then 1 else 0) = true := by split <;> decide
@[simp] theorem small_bit0 {b : Prop} [Decidable b] : small (if b then 0 else 1) = true := by split <;> decide

@[simp] theorem eq_str {x y : Str} : eqD (.str x) (.str y) = if PyData.strOk x && PyData.strOk y then some (decide (x = y)) else none := by
  by_cases h : x = y <;> by_cases hx : PyData.strOk x = true <;> by_cases hy : PyData.strOk y = true <;> simp_all [eqD, D.py, PyData.eqv, SeqAt.shaped, PyData.canLay0, PyData.depth]
@[simp] theorem ok0 : PyData.strOk ("value" : Str) = true := by kernel_rfl
@[simp] theorem ok1 : PyData.strOk ("cell" : Str) = true := by kernel_rfl
@[simp] theorem ok2 : PyData.strOk ("range" : Str) = true := by kernel_rfl
@[simp] theorem ok3 : PyData.strOk ("columns" : Str) = true := by kernel_rfl
@[simp] theorem ok4 : PyData.strOk ("gone" : Str) = true := by kernel_rfl
@[simp] theorem ok5 : PyData.strOk ("name" : Str) = true := by kernel_rfl
@[simp] theorem ok6 : PyData.strOk ("param" : Str) = true := by kernel_rfl
@[simp] theorem ok7 : PyData.strOk ("own" : Str) = true := by kernel_rfl
@[simp] theorem ok8 : PyData.strOk ("op" : Str) = true := by kernel_rfl
@[simp] theorem ok9 : PyData.strOk ("sumif" : Str) = true := by kernel_rfl
@[simp] theorem ok10 : PyData.strOk ("grid" : Str) = true := by kernel_rfl
@[simp] theorem ok11 : PyData.strOk ("if" : Str) = true := by kernel_rfl
@[simp] theorem ok12 : PyData.strOk ("neg" : Str) = true := by kernel_rfl
@[simp] theorem ok13 : PyData.strOk ("turn" : Str) = true := by kernel_rfl
@[simp] theorem ok14 : PyData.strOk ("find" : Str) = true := by kernel_rfl
@[simp] theorem ok15 : PyData.strOk ("least" : Str) = true := by kernel_rfl
@[simp] theorem ok16 : PyData.strOk ("stack" : Str) = true := by kernel_rfl
@[simp] theorem ok17 : PyData.strOk ("outer" : Str) = true := by kernel_rfl
@[simp] theorem ok18 : PyData.strOk ("count" : Str) = true := by kernel_rfl
@[simp] theorem w0_1 : (("value" : Str) = "cell") = False := by decide
@[simp] theorem w0_2 : (("value" : Str) = "range") = False := by decide
@[simp] theorem w0_3 : (("value" : Str) = "columns") = False := by decide
@[simp] theorem w0_4 : (("value" : Str) = "gone") = False := by decide
@[simp] theorem w0_5 : (("value" : Str) = "name") = False := by decide
@[simp] theorem w0_6 : (("value" : Str) = "param") = False := by decide
@[simp] theorem w0_7 : (("value" : Str) = "own") = False := by decide
@[simp] theorem w0_8 : (("value" : Str) = "op") = False := by decide
@[simp] theorem w0_9 : (("value" : Str) = "sumif") = False := by decide
@[simp] theorem w0_10 : (("value" : Str) = "grid") = False := by decide
@[simp] theorem w0_11 : (("value" : Str) = "if") = False := by decide
@[simp] theorem w0_12 : (("value" : Str) = "neg") = False := by decide
@[simp] theorem w0_13 : (("value" : Str) = "turn") = False := by decide
@[simp] theorem w0_14 : (("value" : Str) = "find") = False := by decide
@[simp] theorem w0_15 : (("value" : Str) = "least") = False := by decide
@[simp] theorem w0_16 : (("value" : Str) = "stack") = False := by decide
@[simp] theorem w0_17 : (("value" : Str) = "outer") = False := by decide
@[simp] theorem w0_18 : (("value" : Str) = "count") = False := by decide
@[simp] theorem w1_0 : (("cell" : Str) = "value") = False := by decide
@[simp] theorem w1_2 : (("cell" : Str) = "range") = False := by decide
@[simp] theorem w1_3 : (("cell" : Str) = "columns") = False := by decide
@[simp] theorem w1_4 : (("cell" : Str) = "gone") = False := by decide
@[simp] theorem w1_5 : (("cell" : Str) = "name") = False := by decide
@[simp] theorem w1_6 : (("cell" : Str) = "param") = False := by decide
@[simp] theorem w1_7 : (("cell" : Str) = "own") = False := by decide
@[simp] theorem w1_8 : (("cell" : Str) = "op") = False := by decide
@[simp] theorem w1_9 : (("cell" : Str) = "sumif") = False := by decide
@[simp] theorem w1_10 : (("cell" : Str) = "grid") = False := by decide
@[simp] theorem w1_11 : (("cell" : Str) = "if") = False := by decide
@[simp] theorem w1_12 : (("cell" : Str) = "neg") = False := by decide
@[simp] theorem w1_13 : (("cell" : Str) = "turn") = False := by decide
@[simp] theorem w1_14 : (("cell" : Str) = "find") = False := by decide
@[simp] theorem w1_15 : (("cell" : Str) = "least") = False := by decide
@[simp] theorem w1_16 : (("cell" : Str) = "stack") = False := by decide
@[simp] theorem w1_17 : (("cell" : Str) = "outer") = False := by decide
@[simp] theorem w1_18 : (("cell" : Str) = "count") = False := by decide
@[simp] theorem w2_0 : (("range" : Str) = "value") = False := by decide
@[simp] theorem w2_1 : (("range" : Str) = "cell") = False := by decide
@[simp] theorem w2_3 : (("range" : Str) = "columns") = False := by decide
@[simp] theorem w2_4 : (("range" : Str) = "gone") = False := by decide
@[simp] theorem w2_5 : (("range" : Str) = "name") = False := by decide
@[simp] theorem w2_6 : (("range" : Str) = "param") = False := by decide
@[simp] theorem w2_7 : (("range" : Str) = "own") = False := by decide
@[simp] theorem w2_8 : (("range" : Str) = "op") = False := by decide
@[simp] theorem w2_9 : (("range" : Str) = "sumif") = False := by decide
@[simp] theorem w2_10 : (("range" : Str) = "grid") = False := by decide
@[simp] theorem w2_11 : (("range" : Str) = "if") = False := by decide
@[simp] theorem w2_12 : (("range" : Str) = "neg") = False := by decide
@[simp] theorem w2_13 : (("range" : Str) = "turn") = False := by decide
@[simp] theorem w2_14 : (("range" : Str) = "find") = False := by decide
@[simp] theorem w2_15 : (("range" : Str) = "least") = False := by decide
@[simp] theorem w2_16 : (("range" : Str) = "stack") = False := by decide
@[simp] theorem w2_17 : (("range" : Str) = "outer") = False := by decide
@[simp] theorem w2_18 : (("range" : Str) = "count") = False := by decide
@[simp] theorem w3_0 : (("columns" : Str) = "value") = False := by decide
@[simp] theorem w3_1 : (("columns" : Str) = "cell") = False := by decide
@[simp] theorem w3_2 : (("columns" : Str) = "range") = False := by decide
@[simp] theorem w3_4 : (("columns" : Str) = "gone") = False := by decide
@[simp] theorem w3_5 : (("columns" : Str) = "name") = False := by decide
@[simp] theorem w3_6 : (("columns" : Str) = "param") = False := by decide
@[simp] theorem w3_7 : (("columns" : Str) = "own") = False := by decide
@[simp] theorem w3_8 : (("columns" : Str) = "op") = False := by decide
@[simp] theorem w3_9 : (("columns" : Str) = "sumif") = False := by decide
@[simp] theorem w3_10 : (("columns" : Str) = "grid") = False := by decide
@[simp] theorem w3_11 : (("columns" : Str) = "if") = False := by decide
@[simp] theorem w3_12 : (("columns" : Str) = "neg") = False := by decide
@[simp] theorem w3_13 : (("columns" : Str) = "turn") = False := by decide
@[simp] theorem w3_14 : (("columns" : Str) = "find") = False := by decide
@[simp] theorem w3_15 : (("columns" : Str) = "least") = False := by decide
@[simp] theorem w3_16 : (("columns" : Str) = "stack") = False := by decide
@[simp] theorem w3_17 : (("columns" : Str) = "outer") = False := by decide
@[simp] theorem w3_18 : (("columns" : Str) = "count") = False := by decide
@[simp] theorem w4_0 : (("gone" : Str) = "value") = False := by decide
@[simp] theorem w4_1 : (("gone" : Str) = "cell") = False := by decide
@[simp] theorem w4_2 : (("gone" : Str) = "range") = False := by decide
@[simp] theorem w4_3 : (("gone" : Str) = "columns") = False := by decide
@[simp] theorem w4_5 : (("gone" : Str) = "name") = False := by decide
@[simp] theorem w4_6 : (("gone" : Str) = "param") = False := by decide
@[simp] theorem w4_7 : (("gone" : Str) = "own") = False := by decide
@[simp] theorem w4_8 : (("gone" : Str) = "op") = False := by decide
@[simp] theorem w4_9 : (("gone" : Str) = "sumif") = False := by decide
@[simp] theorem w4_10 : (("gone" : Str) = "grid") = False := by decide
@[simp] theorem w4_11 : (("gone" : Str) = "if") = False := by decide
@[simp] theorem w4_12 : (("gone" : Str) = "neg") = False := by decide
@[simp] theorem w4_13 : (("gone" : Str) = "turn") = False := by decide
@[simp] theorem w4_14 : (("gone" : Str) = "find") = False := by decide
@[simp] theorem w4_15 : (("gone" : Str) = "least") = False := by decide
@[simp] theorem w4_16 : (("gone" : Str) = "stack") = False := by decide
@[simp] theorem w4_17 : (("gone" : Str) = "outer") = False := by decide
@[simp] theorem w4_18 : (("gone" : Str) = "count") = False := by decide
@[simp] theorem w5_0 : (("name" : Str) = "value") = False := by decide
@[simp] theorem w5_1 : (("name" : Str) = "cell") = False := by decide
@[simp] theorem w5_2 : (("name" : Str) = "range") = False := by decide
@[simp] theorem w5_3 : (("name" : Str) = "columns") = False := by decide
@[simp] theorem w5_4 : (("name" : Str) = "gone") = False := by decide
@[simp] theorem w5_6 : (("name" : Str) = "param") = False := by decide
@[simp] theorem w5_7 : (("name" : Str) = "own") = False := by decide
@[simp] theorem w5_8 : (("name" : Str) = "op") = False := by decide
@[simp] theorem w5_9 : (("name" : Str) = "sumif") = False := by decide
@[simp] theorem w5_10 : (("name" : Str) = "grid") = False := by decide
@[simp] theorem w5_11 : (("name" : Str) = "if") = False := by decide
@[simp] theorem w5_12 : (("name" : Str) = "neg") = False := by decide
@[simp] theorem w5_13 : (("name" : Str) = "turn") = False := by decide
@[simp] theorem w5_14 : (("name" : Str) = "find") = False := by decide
@[simp] theorem w5_15 : (("name" : Str) = "least") = False := by decide
@[simp] theorem w5_16 : (("name" : Str) = "stack") = False := by decide
@[simp] theorem w5_17 : (("name" : Str) = "outer") = False := by decide
@[simp] theorem w5_18 : (("name" : Str) = "count") = False := by decide
@[simp] theorem w6_0 : (("param" : Str) = "value") = False := by decide
@[simp] theorem w6_1 : (("param" : Str) = "cell") = False := by decide
@[simp] theorem w6_2 : (("param" : Str) = "range") = False := by decide
@[simp] theorem w6_3 : (("param" : Str) = "columns") = False := by decide
@[simp] theorem w6_4 : (("param" : Str) = "gone") = False := by decide
@[simp] theorem w6_5 : (("param" : Str) = "name") = False := by decide
@[simp] theorem w6_7 : (("param" : Str) = "own") = False := by decide
@[simp] theorem w6_8 : (("param" : Str) = "op") = False := by decide
@[simp] theorem w6_9 : (("param" : Str) = "sumif") = False := by decide
@[simp] theorem w6_10 : (("param" : Str) = "grid") = False := by decide
@[simp] theorem w6_11 : (("param" : Str) = "if") = False := by decide
@[simp] theorem w6_12 : (("param" : Str) = "neg") = False := by decide
@[simp] theorem w6_13 : (("param" : Str) = "turn") = False := by decide
@[simp] theorem w6_14 : (("param" : Str) = "find") = False := by decide
@[simp] theorem w6_15 : (("param" : Str) = "least") = False := by decide
@[simp] theorem w6_16 : (("param" : Str) = "stack") = False := by decide
@[simp] theorem w6_17 : (("param" : Str) = "outer") = False := by decide
@[simp] theorem w6_18 : (("param" : Str) = "count") = False := by decide
@[simp] theorem w7_0 : (("own" : Str) = "value") = False := by decide
@[simp] theorem w7_1 : (("own" : Str) = "cell") = False := by decide
@[simp] theorem w7_2 : (("own" : Str) = "range") = False := by decide
@[simp] theorem w7_3 : (("own" : Str) = "columns") = False := by decide
@[simp] theorem w7_4 : (("own" : Str) = "gone") = False := by decide
@[simp] theorem w7_5 : (("own" : Str) = "name") = False := by decide
@[simp] theorem w7_6 : (("own" : Str) = "param") = False := by decide
@[simp] theorem w7_8 : (("own" : Str) = "op") = False := by decide
@[simp] theorem w7_9 : (("own" : Str) = "sumif") = False := by decide
@[simp] theorem w7_10 : (("own" : Str) = "grid") = False := by decide
@[simp] theorem w7_11 : (("own" : Str) = "if") = False := by decide
@[simp] theorem w7_12 : (("own" : Str) = "neg") = False := by decide
@[simp] theorem w7_13 : (("own" : Str) = "turn") = False := by decide
@[simp] theorem w7_14 : (("own" : Str) = "find") = False := by decide
@[simp] theorem w7_15 : (("own" : Str) = "least") = False := by decide
@[simp] theorem w7_16 : (("own" : Str) = "stack") = False := by decide
@[simp] theorem w7_17 : (("own" : Str) = "outer") = False := by decide
@[simp] theorem w7_18 : (("own" : Str) = "count") = False := by decide
@[simp] theorem w8_0 : (("op" : Str) = "value") = False := by decide
@[simp] theorem w8_1 : (("op" : Str) = "cell") = False := by decide
@[simp] theorem w8_2 : (("op" : Str) = "range") = False := by decide
@[simp] theorem w8_3 : (("op" : Str) = "columns") = False := by decide
@[simp] theorem w8_4 : (("op" : Str) = "gone") = False := by decide
@[simp] theorem w8_5 : (("op" : Str) = "name") = False := by decide
@[simp] theorem w8_6 : (("op" : Str) = "param") = False := by decide
@[simp] theorem w8_7 : (("op" : Str) = "own") = False := by decide
@[simp] theorem w8_9 : (("op" : Str) = "sumif") = False := by decide
@[simp] theorem w8_10 : (("op" : Str) = "grid") = False := by decide
@[simp] theorem w8_11 : (("op" : Str) = "if") = False := by decide
@[simp] theorem w8_12 : (("op" : Str) = "neg") = False := by decide
@[simp] theorem w8_13 : (("op" : Str) = "turn") = False := by decide
@[simp] theorem w8_14 : (("op" : Str) = "find") = False := by decide
@[simp] theorem w8_15 : (("op" : Str) = "least") = False := by decide
@[simp] theorem w8_16 : (("op" : Str) = "stack") = False := by decide
@[simp] theorem w8_17 : (("op" : Str) = "outer") = False := by decide
@[simp] theorem w8_18 : (("op" : Str) = "count") = False := by decide
@[simp] theorem w9_0 : (("sumif" : Str) = "value") = False := by decide
@[simp] theorem w9_1 : (("sumif" : Str) = "cell") = False := by decide
@[simp] theorem w9_2 : (("sumif" : Str) = "range") = False := by decide
@[simp] theorem w9_3 : (("sumif" : Str) = "columns") = False := by decide
@[simp] theorem w9_4 : (("sumif" : Str) = "gone") = False := by decide
@[simp] theorem w9_5 : (("sumif" : Str) = "name") = False := by decide
@[simp] theorem w9_6 : (("sumif" : Str) = "param") = False := by decide
@[simp] theorem w9_7 : (("sumif" : Str) = "own") = False := by decide
@[simp] theorem w9_8 : (("sumif" : Str) = "op") = False := by decide
@[simp] theorem w9_10 : (("sumif" : Str) = "grid") = False := by decide
@[simp] theorem w9_11 : (("sumif" : Str) = "if") = False := by decide
@[simp] theorem w9_12 : (("sumif" : Str) = "neg") = False := by decide
@[simp] theorem w9_13 : (("sumif" : Str) = "turn") = False := by decide
@[simp] theorem w9_14 : (("sumif" : Str) = "find") = False := by decide
@[simp] theorem w9_15 : (("sumif" : Str) = "least") = False := by decide
@[simp] theorem w9_16 : (("sumif" : Str) = "stack") = False := by decide
@[simp] theorem w9_17 : (("sumif" : Str) = "outer") = False := by decide
@[simp] theorem w9_18 : (("sumif" : Str) = "count") = False := by decide
@[simp] theorem w10_0 : (("grid" : Str) = "value") = False := by decide
@[simp] theorem w10_1 : (("grid" : Str) = "cell") = False := by decide
@[simp] theorem w10_2 : (("grid" : Str) = "range") = False := by decide
@[simp] theorem w10_3 : (("grid" : Str) = "columns") = False := by decide
@[simp] theorem w10_4 : (("grid" : Str) = "gone") = False := by decide
@[simp] theorem w10_5 : (("grid" : Str) = "name") = False := by decide
@[simp] theorem w10_6 : (("grid" : Str) = "param") = False := by decide
@[simp] theorem w10_7 : (("grid" : Str) = "own") = False := by decide
@[simp] theorem w10_8 : (("grid" : Str) = "op") = False := by decide
@[simp] theorem w10_9 : (("grid" : Str) = "sumif") = False := by decide
@[simp] theorem w10_11 : (("grid" : Str) = "if") = False := by decide
@[simp] theorem w10_12 : (("grid" : Str) = "neg") = False := by decide
@[simp] theorem w10_13 : (("grid" : Str) = "turn") = False := by decide
@[simp] theorem w10_14 : (("grid" : Str) = "find") = False := by decide
@[simp] theorem w10_15 : (("grid" : Str) = "least") = False := by decide
@[simp] theorem w10_16 : (("grid" : Str) = "stack") = False := by decide
@[simp] theorem w10_17 : (("grid" : Str) = "outer") = False := by decide
@[simp] theorem w10_18 : (("grid" : Str) = "count") = False := by decide
@[simp] theorem w11_0 : (("if" : Str) = "value") = False := by decide
@[simp] theorem w11_1 : (("if" : Str) = "cell") = False := by decide
@[simp] theorem w11_2 : (("if" : Str) = "range") = False := by decide
@[simp] theorem w11_3 : (("if" : Str) = "columns") = False := by decide
@[simp] theorem w11_4 : (("if" : Str) = "gone") = False := by decide
@[simp] theorem w11_5 : (("if" : Str) = "name") = False := by decide
@[simp] theorem w11_6 : (("if" : Str) = "param") = False := by decide
@[simp] theorem w11_7 : (("if" : Str) = "own") = False := by decide
@[simp] theorem w11_8 : (("if" : Str) = "op") = False := by decide
@[simp] theorem w11_9 : (("if" : Str) = "sumif") = False := by decide
@[simp] theorem w11_10 : (("if" : Str) = "grid") = False := by decide
@[simp] theorem w11_12 : (("if" : Str) = "neg") = False := by decide
@[simp] theorem w11_13 : (("if" : Str) = "turn") = False := by decide
@[simp] theorem w11_14 : (("if" : Str) = "find") = False := by decide
@[simp] theorem w11_15 : (("if" : Str) = "least") = False := by decide
@[simp] theorem w11_16 : (("if" : Str) = "stack") = False := by decide
@[simp] theorem w11_17 : (("if" : Str) = "outer") = False := by decide
@[simp] theorem w11_18 : (("if" : Str) = "count") = False := by decide
@[simp] theorem w12_0 : (("neg" : Str) = "value") = False := by decide
@[simp] theorem w12_1 : (("neg" : Str) = "cell") = False := by decide
@[simp] theorem w12_2 : (("neg" : Str) = "range") = False := by decide
@[simp] theorem w12_3 : (("neg" : Str) = "columns") = False := by decide
@[simp] theorem w12_4 : (("neg" : Str) = "gone") = False := by decide
@[simp] theorem w12_5 : (("neg" : Str) = "name") = False := by decide
@[simp] theorem w12_6 : (("neg" : Str) = "param") = False := by decide
@[simp] theorem w12_7 : (("neg" : Str) = "own") = False := by decide
@[simp] theorem w12_8 : (("neg" : Str) = "op") = False := by decide
@[simp] theorem w12_9 : (("neg" : Str) = "sumif") = False := by decide
@[simp] theorem w12_10 : (("neg" : Str) = "grid") = False := by decide
@[simp] theorem w12_11 : (("neg" : Str) = "if") = False := by decide
@[simp] theorem w13_0 : (("turn" : Str) = "value") = False := by decide
@[simp] theorem w13_1 : (("turn" : Str) = "cell") = False := by decide
@[simp] theorem w13_2 : (("turn" : Str) = "range") = False := by decide
@[simp] theorem w13_3 : (("turn" : Str) = "columns") = False := by decide
@[simp] theorem w13_4 : (("turn" : Str) = "gone") = False := by decide
@[simp] theorem w13_5 : (("turn" : Str) = "name") = False := by decide
@[simp] theorem w13_6 : (("turn" : Str) = "param") = False := by decide
@[simp] theorem w13_7 : (("turn" : Str) = "own") = False := by decide
@[simp] theorem w13_8 : (("turn" : Str) = "op") = False := by decide
@[simp] theorem w13_9 : (("turn" : Str) = "sumif") = False := by decide
@[simp] theorem w13_10 : (("turn" : Str) = "grid") = False := by decide
@[simp] theorem w13_11 : (("turn" : Str) = "if") = False := by decide
@[simp] theorem w14_0 : (("find" : Str) = "value") = False := by decide
@[simp] theorem w14_1 : (("find" : Str) = "cell") = False := by decide
@[simp] theorem w14_2 : (("find" : Str) = "range") = False := by decide
@[simp] theorem w14_3 : (("find" : Str) = "columns") = False := by decide
@[simp] theorem w14_4 : (("find" : Str) = "gone") = False := by decide
@[simp] theorem w14_5 : (("find" : Str) = "name") = False := by decide
@[simp] theorem w14_6 : (("find" : Str) = "param") = False := by decide
@[simp] theorem w14_7 : (("find" : Str) = "own") = False := by decide
@[simp] theorem w14_8 : (("find" : Str) = "op") = False := by decide
@[simp] theorem w14_9 : (("find" : Str) = "sumif") = False := by decide
@[simp] theorem w14_10 : (("find" : Str) = "grid") = False := by decide
@[simp] theorem w14_11 : (("find" : Str) = "if") = False := by decide
@[simp] theorem w15_0 : (("least" : Str) = "value") = False := by decide
@[simp] theorem w15_1 : (("least" : Str) = "cell") = False := by decide
@[simp] theorem w15_2 : (("least" : Str) = "range") = False := by decide
@[simp] theorem w15_3 : (("least" : Str) = "columns") = False := by decide
@[simp] theorem w15_4 : (("least" : Str) = "gone") = False := by decide
@[simp] theorem w15_5 : (("least" : Str) = "name") = False := by decide
@[simp] theorem w15_6 : (("least" : Str) = "param") = False := by decide
@[simp] theorem w15_7 : (("least" : Str) = "own") = False := by decide
@[simp] theorem w15_8 : (("least" : Str) = "op") = False := by decide
@[simp] theorem w15_9 : (("least" : Str) = "sumif") = False := by decide
@[simp] theorem w15_10 : (("least" : Str) = "grid") = False := by decide
@[simp] theorem w15_11 : (("least" : Str) = "if") = False := by decide
@[simp] theorem w16_0 : (("stack" : Str) = "value") = False := by decide
@[simp] theorem w16_1 : (("stack" : Str) = "cell") = False := by decide
@[simp] theorem w16_2 : (("stack" : Str) = "range") = False := by decide
@[simp] theorem w16_3 : (("stack" : Str) = "columns") = False := by decide
@[simp] theorem w16_4 : (("stack" : Str) = "gone") = False := by decide
@[simp] theorem w16_5 : (("stack" : Str) = "name") = False := by decide
@[simp] theorem w16_6 : (("stack" : Str) = "param") = False := by decide
@[simp] theorem w16_7 : (("stack" : Str) = "own") = False := by decide
@[simp] theorem w16_8 : (("stack" : Str) = "op") = False := by decide
@[simp] theorem w16_9 : (("stack" : Str) = "sumif") = False := by decide
@[simp] theorem w16_10 : (("stack" : Str) = "grid") = False := by decide
@[simp] theorem w16_11 : (("stack" : Str) = "if") = False := by decide
@[simp] theorem w17_0 : (("outer" : Str) = "value") = False := by decide
@[simp] theorem w17_1 : (("outer" : Str) = "cell") = False := by decide
@[simp] theorem w17_2 : (("outer" : Str) = "range") = False := by decide
@[simp] theorem w17_3 : (("outer" : Str) = "columns") = False := by decide
@[simp] theorem w17_4 : (("outer" : Str) = "gone") = False := by decide
@[simp] theorem w17_5 : (("outer" : Str) = "name") = False := by decide
@[simp] theorem w17_6 : (("outer" : Str) = "param") = False := by decide
@[simp] theorem w17_7 : (("outer" : Str) = "own") = False := by decide
@[simp] theorem w17_8 : (("outer" : Str) = "op") = False := by decide
@[simp] theorem w17_9 : (("outer" : Str) = "sumif") = False := by decide
@[simp] theorem w17_10 : (("outer" : Str) = "grid") = False := by decide
@[simp] theorem w17_11 : (("outer" : Str) = "if") = False := by decide
@[simp] theorem w18_0 : (("count" : Str) = "value") = False := by decide
@[simp] theorem w18_1 : (("count" : Str) = "cell") = False := by decide
@[simp] theorem w18_2 : (("count" : Str) = "range") = False := by decide
@[simp] theorem w18_3 : (("count" : Str) = "columns") = False := by decide
@[simp] theorem w18_4 : (("count" : Str) = "gone") = False := by decide
@[simp] theorem w18_5 : (("count" : Str) = "name") = False := by decide
@[simp] theorem w18_6 : (("count" : Str) = "param") = False := by decide
@[simp] theorem w18_7 : (("count" : Str) = "own") = False := by decide
@[simp] theorem w18_8 : (("count" : Str) = "op") = False := by decide
@[simp] theorem w18_9 : (("count" : Str) = "sumif") = False := by decide
@[simp] theorem w18_10 : (("count" : Str) = "grid") = False := by decide
@[simp] theorem w18_11 : (("count" : Str) = "if") = False := by decide
/-! ### references -/
structure Cn where
  r : Int
  c : Int
  a : Bool
  b : Bool
def Cn.d (p : Cn) : D := .tup [.int p.r, .int p.c, .bl p.a, .bl p.b]
def pD (x : Int × Bool) : D := .tup [.int x.1, .bl x.2]
inductive Rf where
  | cell (s : D) (p : Cn) | rng (s : D) (p q : Cn) | col (s : D) (x y : Int × Bool) | gone
def Rf.d : Rf → D
  | .cell s p => .tup [.str "cell", s, p.d]
  | .rng s p q => .tup [.str "range", s, p.d, q.d]
  | .col s x y => .tup [.str "columns", s, pD x, pD y]
  | .gone => .tup [.str "gone"]
def mv (at_ w : Int) (s : Bool) (last : Int) : Option Int := if s then some at_ else if at_ + w < 1 ∨ last < at_ + w then none else some (at_ + w)
def mvD : Option Int → D
  | none => .non
  | some i => .int i
def pr (x y : Int × Bool) (w last : Int) : Option ((Int × Bool) × (Int × Bool)) := (mv x.1 w x.2 last).bind fun f => (mv y.1 w y.2 last).bind fun g => if f ≤ g then some ((f, x.2), (g, y.2)) else some ((g, y.2), (f, x.2))
def due : Rf → Int → Int → Rf
  | .cell s p, dr, dc => match pr (p.r, p.a) (p.r, p.a) dr 16, pr (p.c, p.b) (p.c, p.b) dc 8 with
    | some u, some v => .cell s ⟨u.1.1, v.1.1, u.1.2, v.1.2⟩
    | _, _ => .gone
  | .rng s p q, dr, dc => match pr (p.r, p.a) (q.r, q.a) dr 16, pr (p.c, p.b) (q.c, q.b) dc 8 with
    | some u, some v => .rng s ⟨u.1.1, v.1.1, u.1.2, v.1.2⟩ ⟨u.2.1, v.2.1, u.2.2, v.2.2⟩
    | _, _ => .gone
  | .col s x y, dr, dc => match pr x y dc 8 with
    | some v => .col s v.1 v.2
    | none => .gone
  | .gone, _, _ => .gone
section
variable {wf n : Nat} {st : Sto}
theorem e_moved (at_ w : Int) (s : Bool) (last : Int) : (calls S.Tb wf (n + 1)).call 11 [.int at_, .int w, .bl s, .int last] st = some (.val (mvD (mv at_ w s last)), st) := by
  rw [call_eq (fn := b11) rfl, run_eq rfl]
  cases s
  · by_cases h1 : at_ + w < 1
    · simp [b11, mv, mvD, h1]
    · by_cases h2 : last < at_ + w <;> simp [b11, mv, mvD, h1, h2]
  · simp [b11, mv, mvD]
theorem e_pair (x y : Int × Bool) (w last : Int) : (calls S.Tb wf (n + 2)).call 12 [pD x, pD y, .int w, .int last] st = some ((match pr x y w last with
    | none => .val .non
    | some (u, v) => .lst [pD u, pD v]), st) := by
  rw [call_eq (fn := b12) rfl, run_eq rfl]
  unfold pr
  cases h1 : mv x.1 w x.2 last with
  | none =>
    cases h2 : mv y.1 w y.2 last <;> simp [b12, pD, e_moved, h1, h2, mvD]
  | some f =>
    cases h2 : mv y.1 w y.2 last with
    | none => simp [b12, pD, e_moved, h1, h2, mvD]
    | some g => by_cases h3 : f ≤ g <;> simp [b12, pD, e_moved, h1, h2, mvD, h3]
theorem e_due (R : Rf) (hR : R ≠ .gone) (dr dc : Int) : (calls S.Tb wf (n + 3)).call 13 [R.d, .int dr, .int dc] st = some (.val (due R dr dc).d, st) := by
  rw [call_eq (fn := b13) rfl, run_eq rfl]
  have p1 : ∀ (i : Int) (s : Bool), D.tup [.int i, .bl s] = pD (i, s) := fun _ _ => rfl
  cases R with
  | gone => exact absurd rfl hR
  | cell s p =>
    cases h1 : pr (p.r, p.a) (p.r, p.a) dr 16 with
    | none => cases h2 : pr (p.c, p.b) (p.c, p.b) dc 8 <;> simp [b13, Rf.d, Cn.d, due, e_pair, p1, h1, h2]
    | some u => cases h2 : pr (p.c, p.b) (p.c, p.b) dc 8 <;> simp [b13, Rf.d, Cn.d, due, e_pair, p1, h1, h2] <;> simp [pD]
  | rng s p q =>
    cases h1 : pr (p.r, p.a) (q.r, q.a) dr 16 with
    | none => cases h2 : pr (p.c, p.b) (q.c, q.b) dc 8 <;> simp [b13, Rf.d, Cn.d, due, e_pair, p1, h1, h2]
    | some u => cases h2 : pr (p.c, p.b) (q.c, q.b) dc 8 <;> simp [b13, Rf.d, Cn.d, due, e_pair, p1, h1, h2] <;> simp [pD]
  | col s x y => cases h1 : pr x y dc 8 <;> simp [b13, Rf.d, Cn.d, due, e_pair, p1, h1] <;> simp [pD]
end
end Lw

set_option Elab.async false
set_option linter.all false
set_option maxRecDepth 100000
set_option maxHeartbeats 0
/-! k56, part B: references copied. -/
namespace Lw
open PySem PySem.Spec PyProof.Rows L2 Iv
def Cn.ok (p : Cn) : Prop := (1 ≤ p.r ∧ p.r ≤ 16) ∧ (1 ≤ p.c ∧ p.c ≤ 8)
def away (p : Cn) (dr dc : Int) : Option Cn := (mv p.r dr p.a 16).bind fun i => (mv p.c dc p.b 8).map fun j => ⟨i, j, p.a, p.b⟩
def awayD : Option Cn → D
  | none => .non
  | some p => p.d
def ord (p q : Cn) : Cn × Cn := match decide (q.r < p.r), decide (q.c < p.c) with
  | false, false => (p, q)
  | true, false => (⟨q.r, p.c, q.a, p.b⟩, ⟨p.r, q.c, p.a, q.b⟩)
  | false, true => (⟨p.r, q.c, p.a, q.b⟩, ⟨q.r, p.c, q.a, p.b⟩)
  | true, true => (q, p)
@[simp] theorem cn_ne (p : Cn) : (p.d = .non) = False := by simp [Cn.d]
@[simp] theorem small_0 : small 0 = true := by decide
@[simp] theorem small_1 : small 1 = true := by decide
section
variable {wf n : Nat} {st : Sto}
theorem e_away (p : Cn) (hp : p.ok) (dr dc : Int) : (calls S.Tb wf (n + 1)).call 2 [p.d, .int dr, .int dc] st = some (.val (awayD (away p dr dc)), st) := by
  rw [call_eq (fn := b2) rfl, run_eq rfl]
  obtain ⟨r, c, a, b⟩ := p
  obtain ⟨⟨h1, h2⟩, h3, h4⟩ := hp
  dsimp only at h1 h2 h3 h4
  have h2' : ¬ 16 < r := by omega
  have h4' : ¬ 8 < c := by omega
  have lo : ∀ i : Int, (1 ≤ i) = ¬ (i < 1) := fun i => by simp only [eq_iff_iff]; omega
  have hl1 := h1
  have hl3 := h3
  rw [lo] at h1 h3
  by_cases x1 : r + dr < 1 <;> by_cases x2 : 16 < r + dr <;> by_cases y1 : c + dc < 1 <;> by_cases y2 : 8 < c + dc <;> cases a <;> cases b <;>
    simp [b2, Cn.d, away, awayD, mv, h1, h2', h3, h4', lo, x1, x2, y1, y2, hl1, hl3]
theorem e_order (p q : Cn) : (calls S.Tb wf (n + 1)).call 3 [p.d, q.d] st = some (.val (.tup [(ord p q).1.d, (ord p q).2.d]), st) := by
  rw [call_eq (fn := b3) rfl, run_eq rfl]
  by_cases h1 : q.r < p.r <;> by_cases h2 : q.c < p.c <;> simp [b3, Cn.d, ord, h1, h2, rngD, forGo, List.range, List.range.loop]
/-- what a sheet's word, a place may be -/
def sOk (s : D) : Prop := s = .non ∨ s = .str "a" ∨ s = .str "bc"
def xOk (x : Int × Bool) : Prop := 1 ≤ x.1 ∧ x.1 ≤ 8
def Rf.ok : Rf → Prop
  | .cell s p => sOk s ∧ p.ok
  | .rng s p q => sOk s ∧ p.ok ∧ q.ok
  | .col s x y => sOk s ∧ xOk x ∧ xOk y
  | .gone => True
@[simp] theorem leaf0 (st : Sto) : inD st (.str "value") (.tup [(.str "value"), (.str "cell"), (.str "range"), (.str "columns"), (.str "gone"), (.str "name"), (.str "param")]) = some true := by kernel_rfl
@[simp] theorem leaf1 (st : Sto) : inD st (.str "cell") (.tup [(.str "value"), (.str "cell"), (.str "range"), (.str "columns"), (.str "gone"), (.str "name"), (.str "param")]) = some true := by kernel_rfl
@[simp] theorem leaf2 (st : Sto) : inD st (.str "range") (.tup [(.str "value"), (.str "cell"), (.str "range"), (.str "columns"), (.str "gone"), (.str "name"), (.str "param")]) = some true := by kernel_rfl
@[simp] theorem leaf3 (st : Sto) : inD st (.str "columns") (.tup [(.str "value"), (.str "cell"), (.str "range"), (.str "columns"), (.str "gone"), (.str "name"), (.str "param")]) = some true := by kernel_rfl
@[simp] theorem leaf4 (st : Sto) : inD st (.str "gone") (.tup [(.str "value"), (.str "cell"), (.str "range"), (.str "columns"), (.str "gone"), (.str "name"), (.str "param")]) = some true := by kernel_rfl
@[simp] theorem leaf5 (st : Sto) : inD st (.str "name") (.tup [(.str "value"), (.str "cell"), (.str "range"), (.str "columns"), (.str "gone"), (.str "name"), (.str "param")]) = some true := by kernel_rfl
@[simp] theorem leaf6 (st : Sto) : inD st (.str "param") (.tup [(.str "value"), (.str "cell"), (.str "range"), (.str "columns"), (.str "gone"), (.str "name"), (.str "param")]) = some true := by kernel_rfl
@[simp] theorem leaf7 (st : Sto) : inD st (.str "own") (.tup [(.str "value"), (.str "cell"), (.str "range"), (.str "columns"), (.str "gone"), (.str "name"), (.str "param")]) = some false := by kernel_rfl
@[simp] theorem leaf8 (st : Sto) : inD st (.str "op") (.tup [(.str "value"), (.str "cell"), (.str "range"), (.str "columns"), (.str "gone"), (.str "name"), (.str "param")]) = some false := by kernel_rfl
@[simp] theorem leaf9 (st : Sto) : inD st (.str "sumif") (.tup [(.str "value"), (.str "cell"), (.str "range"), (.str "columns"), (.str "gone"), (.str "name"), (.str "param")]) = some false := by kernel_rfl
@[simp] theorem leaf10 (st : Sto) : inD st (.str "grid") (.tup [(.str "value"), (.str "cell"), (.str "range"), (.str "columns"), (.str "gone"), (.str "name"), (.str "param")]) = some false := by kernel_rfl
@[simp] theorem leaf11 (st : Sto) : inD st (.str "if") (.tup [(.str "value"), (.str "cell"), (.str "range"), (.str "columns"), (.str "gone"), (.str "name"), (.str "param")]) = some false := by kernel_rfl
@[simp] theorem leaf12 (st : Sto) : inD st (.str "neg") (.tup [(.str "value"), (.str "cell"), (.str "range"), (.str "columns"), (.str "gone"), (.str "name"), (.str "param")]) = some false := by kernel_rfl
@[simp] theorem leaf13 (st : Sto) : inD st (.str "turn") (.tup [(.str "value"), (.str "cell"), (.str "range"), (.str "columns"), (.str "gone"), (.str "name"), (.str "param")]) = some false := by kernel_rfl
@[simp] theorem leaf14 (st : Sto) : inD st (.str "find") (.tup [(.str "value"), (.str "cell"), (.str "range"), (.str "columns"), (.str "gone"), (.str "name"), (.str "param")]) = some false := by kernel_rfl
@[simp] theorem leaf15 (st : Sto) : inD st (.str "least") (.tup [(.str "value"), (.str "cell"), (.str "range"), (.str "columns"), (.str "gone"), (.str "name"), (.str "param")]) = some false := by kernel_rfl
@[simp] theorem leaf16 (st : Sto) : inD st (.str "stack") (.tup [(.str "value"), (.str "cell"), (.str "range"), (.str "columns"), (.str "gone"), (.str "name"), (.str "param")]) = some false := by kernel_rfl
@[simp] theorem leaf17 (st : Sto) : inD st (.str "outer") (.tup [(.str "value"), (.str "cell"), (.str "range"), (.str "columns"), (.str "gone"), (.str "name"), (.str "param")]) = some false := by kernel_rfl
@[simp] theorem leaf18 (st : Sto) : inD st (.str "count") (.tup [(.str "value"), (.str "cell"), (.str "range"), (.str "columns"), (.str "gone"), (.str "name"), (.str "param")]) = some false := by kernel_rfl
theorem e_copyR (R : Rf) (hR : R.ok) (dr dc : Int) : (calls S.Tb wf (n + 3)).call 4 [R.d, .int dr, .int dc] st = some (.val (due R dr dc).d, st) := by
  have ea : ∀ (p : Cn), p.ok → (calls S.Tb wf (n + 2)).call 2 [p.d, .int dr, .int dc] st = some (.val (awayD (away p dr dc)), st) := fun p hp => e_away (n := n + 1) p hp dr dc
  have eo : ∀ (p q : Cn), (calls S.Tb wf (n + 2)).call 3 [p.d, q.d] st = some (.val (.tup [(ord p q).1.d, (ord p q).2.d]), st) := fun p q => e_order (n := n + 1) p q
  cases R with
  | gone =>
    have e0 : (calls S.Tb wf (n + 2)).call 0 [.tup [.str "gone"]] st = some (.lst [], st) := by
      rw [call_eq (fn := b0) rfl, run_eq rfl]
      simp [b0]
    have e1 : (calls S.Tb wf (n + 2)).call 1 [.tup [.str "gone"], .lst []] st = some (.val (.tup [.str "gone"]), st) := by
      rw [call_eq (fn := b1) rfl, run_eq rfl]
      simp [b1]
    rw [call_eq (fn := b4) rfl, run_eq rfl]
    simp [b4, Rf.d, due, e0, e1, lcGo]
  | cell s p =>
    have e := ea p hR.2
    rw [call_eq (fn := b4) rfl, run_eq rfl]
    unfold away at e
    cases h1 : mv p.r dr p.a 16 with
    | none =>
      simp only [h1, Option.bind_none, awayD] at e
      simp [b4, Rf.d, due, e, pr, h1]
    | some i =>
      cases h2 : mv p.c dc p.b 8 with
      | none =>
        simp only [h1, h2, Option.bind_some, Option.map_none, awayD] at e
        simp [b4, Rf.d, due, e, pr, h1, h2]
      | some j =>
        simp only [h1, h2, Option.bind_some, Option.map_some, awayD] at e
        simp [b4, Rf.d, due, e, pr, h1, h2]
  | rng s p q =>
    have e1 := ea p hR.2.1
    have e2 := ea q hR.2.2
    rw [call_eq (fn := b4) rfl, run_eq rfl]
    unfold away at e1 e2
    cases h1 : mv p.r dr p.a 16 <;> cases h2 : mv p.c dc p.b 8 <;> cases h3 : mv q.r dr q.a 16 <;> cases h4 : mv q.c dc q.b 8 <;>
      simp only [h1, h2, h3, h4, Option.bind_none, Option.bind_some, Option.map_none, Option.map_some, awayD] at e1 e2
    case some.some.some.some i j k l =>
      by_cases g1 : k < i <;> by_cases g2 : l < j <;>
        simp [b4, Rf.d, due, e1, e2, eo, pr, h1, h2, h3, h4, ord, g1, g2, show (i ≤ k) = ¬ k < i from by simp only [eq_iff_iff]; omega, show (j ≤ l) = ¬ l < j from by simp only [eq_iff_iff]; omega]
    all_goals simp [b4, Rf.d, due, e1, e2, pr, h1, h2, h3, h4]
  | col s x y =>
    have e1 := ea ⟨1, x.1, true, x.2⟩ ⟨by simp, hR.2.1⟩
    have e2 := ea ⟨1, y.1, true, y.2⟩ ⟨by simp, hR.2.2⟩
    have eo' : ∀ (p q : Cn), (calls S.Tb wf (n + 2)).call 3 [p.d, q.d] st = some (.val (.tup [(ord p q).1.d, (ord p q).2.d]), st) := eo
    rw [call_eq (fn := b4) rfl, run_eq rfl]
    unfold away at e1 e2
    have m1 : mv 1 dr true 16 = some 1 := rfl
    cases h2 : mv x.1 dc x.2 8 <;> cases h4 : mv y.1 dc y.2 8 <;>
      simp only [h2, h4, m1, Option.bind_none, Option.bind_some, Option.map_none, Option.map_some, awayD] at e1 e2
    case some.some j l =>
      have eo2 := eo ⟨1, j, true, x.2⟩ ⟨1, l, true, y.2⟩
      simp only [Cn.d] at e1 e2 eo2
      by_cases g2 : l < j <;>
        simp [b4, Rf.d, due, pD, e1, e2, eo2, pr, h2, h4, ord, g2, Cn.d, show (j ≤ l) = ¬ l < j from by simp only [eq_iff_iff]; omega]
    all_goals
      simp only [Cn.d] at e1 e2
      simp [b4, Rf.d, due, pD, e1, e2, pr, h2, h4, Cn.d]
end
end Lw

set_option Elab.async false
set_option linter.all false
set_option maxRecDepth 100000
set_option maxHeartbeats 0
/-! k56, part C: formulas copied. -/
namespace Lw
open PySem PySem.Spec PyProof.Rows L2 Iv
def Cop (wf : Nat) (dr dc : Int) (k : Nat) (x y : D) : Prop := ∀ n st, (calls S.Tb wf (n + k)).call 4 [x, .int dr, .int dc] st = some (.val y, st)
def FD (way : Bool) (a b c d e f : D) : D :=
  let third : D := .tup [.str "find", .tup [.str "least", e], .tup [.str "stack", f, a], b]
  if way then .tup [.str "if", .tup [.str "op", .str "<", a, .tup [.str "value", .tup [.str "number", .int 2, .int 1]]], .tup [.str "neg", b],
    .tup [.str "own", .str "f", .tup [.tup [.str "sumif", c, .str "<", .tup [.str "neg", f], .tup [.str "outer", d]], .tup [.str "grid", .int 2, .int 3, e, .tup [.str "turn", f]], third]]]
  else .tup [.str "if", .tup [.str "name", .str "n"], .tup [.str "op", .str "*", .tup [.str "turn", a], .tup [.str "neg", b]],
    .tup [.str "own", .str "f", .tup [.tup [.str "sumif", c, .str "<", .tup [.str "value", .tup [.str "text", .str "a 1"]], .tup [.str "outer", d]], .tup [.str "grid", .int 2, .int 3, e, .tup [.str "count", f]], third]]]
section
variable {wf n : Nat} {st : Sto} {dr dc : Int} {k : Nat}
theorem Cop.up {x y : D} (h : Cop wf dr dc k x y) (j : Nat) : Cop wf dr dc (k + j) x y := fun n st => by
  have := h (n + j) st
  rwa [show n + j + k = n + (k + j) from by omega] at this
theorem cop_R (R : Rf) (hR : R.ok) : Cop wf dr dc 3 R.d (due R dr dc).d := fun n st => e_copyR R hR dr dc
def CopL (wf : Nat) (dr dc : Int) (k : Nat) : List D → List D → Prop
  | [], [] => True
  | x :: xs, y :: ys => Cop wf dr dc k x y ∧ CopL wf dr dc k xs ys
  | _, _ => False
theorem copL_go {f : D → Sto → Option (Option D × Sto)} : ∀ {xs ys : List D}, CopL wf dr dc k xs ys → (∀ x y st, Cop wf dr dc k x y → f x st = some (some y, st)) → lcGo f (fun _ => true) xs st = some (ys, st)
  | [], [], _, _ => rfl
  | [], _ :: _, h, _ => h.elim
  | _ :: _, [], h, _ => h.elim
  | x :: xs, y :: ys, h, hf => by
    rw [lcGo, if_pos rfl, hf x y st h.1]
    simp only [Option.bind_some]
    rw [copL_go h.2 hf]
    rfl
theorem cop_node {w : Str} {rest xs xs' : List D} {f' : D} (hw : PyData.strOk w = true) (w1 : (w = "cell") = False) (w2 : (w = "range") = False) (w3 : (w = "columns") = False)
    (e0 : ∀ m st, (calls S.Tb wf (m + 1)).call 0 [.tup (.str w :: rest)] st = some (.lst xs, st)) (e1 : ∀ m st, (calls S.Tb wf (m + 1)).call 1 [.tup (.str w :: rest), .lst xs'] st = some (.val f', st))
    (hl : CopL wf dr dc (k + 1) xs xs') (hlen : xs.length ≤ 1000) : Cop wf dr dc (k + 2) (.tup (.str w :: rest)) f' := fun n st => by
  have e0' := e0 (n + k)
  have e1' := e1 (n + k)
  have hlen' : xs.length ≤ 1000000 := by omega
  rw [show n + (k + 2) = n + k + 1 + 1 from by omega, call_eq (fn := b4) rfl, run_eq rfl]
  have go : lcGo (fun x st => Option.map (fun z => (some z.1.d, z.2)) ((calls S.Tb wf (n + k + 1)).call 4 [x, D.int dr, D.int dc] st)) (Src.vals xs).ok xs st = some (xs', st) :=
    copL_go hl fun x y st h => by
      have := h n st
      rw [show n + (k + 1) = n + k + 1 from by omega] at this
      rw [this]
      rfl
  simp [b4, hw, w1, w2, w3, e0', e1', wipeE, hlen', go]
theorem w_notin {w : Str} (hw : w ∉ ([("value" : Str), "cell", "range", "columns", "gone", "name", "param"] : List Str)) (st : Sto) : inD st (.str w) (.tup [(.str "value"), (.str "cell"), (.str "range"), (.str "columns"), (.str "gone"), (.str "name"), (.str "param")]) = some false := by
  simp only [List.mem_cons, List.not_mem_nil, or_false, not_or] at hw
  obtain ⟨h1, h2, h3, h4, h5, h6, h7⟩ := hw
  simp [inD, vD, vDs, inV, eqV, Ne.symm h1, Ne.symm h2, Ne.symm h3, Ne.symm h4, Ne.symm h5, Ne.symm h6, Ne.symm h7]
/-- a node of parts that stand one after the other -/
theorem cop_plain {w : Str} {xs xs' : List D} (hw : PyData.strOk w = true) (hn : w ∉ ([("value" : Str), "cell", "range", "columns", "gone", "name", "param"] : List Str)) (hm : w ∉ ([("own" : Str), "op", "sumif", "grid"] : List Str))
    (hl : CopL wf dr dc (k + 1) xs xs') (hlen : xs.length ≤ 900) (hlen' : xs'.length ≤ 900) : Cop wf dr dc (k + 2) (.tup (.str w :: xs)) (.tup (.str w :: xs')) := by
  have hi := w_notin hn
  simp only [List.mem_cons, List.not_mem_nil, or_false, not_or] at hn hm
  obtain ⟨h1, h2, h3, h4, h5, h6, h7⟩ := hn
  obtain ⟨m1, m2, m3, m4⟩ := hm
  refine cop_node hw (by simpa using h2) (by simpa using h3) (by simpa using h4) (fun m st => ?_) (fun m st => ?_) hl (by omega)
  · rw [call_eq (fn := b0) rfl, run_eq rfl]
    simp [b0, hi, hw, m1, m2, m3, m4, eq_false m1, eq_false m2, eq_false m3, eq_false m4]
  · rw [call_eq (fn := b1) rfl, run_eq rfl]
    simp [b1, hi, hw, m1, m2, m3, m4]
    omega
theorem cop_op {o a b a' b' : D} (ha : Cop wf dr dc (k + 1) a a') (hb : Cop wf dr dc (k + 1) b b') : Cop wf dr dc (k + 2) (.tup [.str "op", o, a, b]) (.tup [.str "op", o, a', b']) := by
  refine cop_node (by simp) (by simp) (by simp) (by simp) (fun m st => ?_) (fun m st => ?_) (show CopL wf dr dc (k + 1) [a, b] [a', b'] from ⟨ha, hb, trivial⟩) (by simp)
  · rw [call_eq (fn := b0) rfl, run_eq rfl]
    simp [b0]
  · rw [call_eq (fn := b1) rfl, run_eq rfl]
    simp [b1]
theorem cop_own {o : D} {xs xs' : List D} (h : CopL wf dr dc (k + 1) xs xs') (hl : xs.length ≤ 900) : Cop wf dr dc (k + 2) (.tup [.str "own", o, .tup xs]) (.tup [.str "own", o, .tup xs']) := by
  refine cop_node (by simp) (by simp) (by simp) (by simp) (fun m st => ?_) (fun m st => ?_) h (by omega)
  · rw [call_eq (fn := b0) rfl, run_eq rfl]
    simp [b0]
  · rw [call_eq (fn := b1) rfl, run_eq rfl]
    simp [b1]
theorem cop_sumif {o a b c a' b' c' : D} (ha : Cop wf dr dc (k + 1) a a') (hb : Cop wf dr dc (k + 1) b b') (hc : Cop wf dr dc (k + 1) c c') : Cop wf dr dc (k + 2) (.tup [.str "sumif", a, o, b, c]) (.tup [.str "sumif", a', o, b', c']) := by
  refine cop_node (by simp) (by simp) (by simp) (by simp) (fun m st => ?_) (fun m st => ?_) (show CopL wf dr dc (k + 1) [a, b, c] [a', b', c'] from ⟨ha, hb, hc, trivial⟩) (by simp)
  · rw [call_eq (fn := b0) rfl, run_eq rfl]
    simp [b0]
  · rw [call_eq (fn := b1) rfl, run_eq rfl]
    simp [b1]
theorem cop_grid {o q a b a' b' : D} (ha : Cop wf dr dc (k + 1) a a') (hb : Cop wf dr dc (k + 1) b b') : Cop wf dr dc (k + 2) (.tup [.str "grid", o, q, a, b]) (.tup [.str "grid", o, q, a', b']) := by
  refine cop_node (by simp) (by simp) (by simp) (by simp) (fun m st => ?_) (fun m st => ?_) (show CopL wf dr dc (k + 1) [a, b] [a', b'] from ⟨ha, hb, trivial⟩) (by simp)
  · rw [call_eq (fn := b0) rfl, run_eq rfl]
    simp [b0]
  · rw [call_eq (fn := b1) rfl, run_eq rfl]
    simp [b1]
theorem cop_leaf {w : Str} {rest : List D} (hw : w = "value" ∨ w = "name") : Cop wf dr dc 2 (.tup (.str w :: rest)) (.tup (.str w :: rest)) := by
  refine cop_node (k := 0) (xs := []) (xs' := []) (by rcases hw with rfl | rfl <;> simp) (by rcases hw with rfl | rfl <;> simp) (by rcases hw with rfl | rfl <;> simp) (by rcases hw with rfl | rfl <;> simp) (fun m st => ?_) (fun m st => ?_) trivial (by simp)
  · rw [call_eq (fn := b0) rfl, run_eq rfl]
    rcases hw with rfl | rfl <;> simp [b0]
  · rw [call_eq (fn := b1) rfl, run_eq rfl]
    rcases hw with rfl | rfl <;> simp [b1]
theorem cop_F {way : Bool} {a b c d e f a' b' c' d' e' f' : D} (ha : Cop wf dr dc 3 a a') (hb : Cop wf dr dc 3 b b') (hc : Cop wf dr dc 3 c c') (hd : Cop wf dr dc 3 d d') (he : Cop wf dr dc 3 e e') (hf : Cop wf dr dc 3 f f') :
    Cop wf dr dc 8 (FD way a b c d e f) (FD way a' b' c' d' e' f') := by
  have un : ∀ {w : Str} {x x' : D}, Cop wf dr dc 3 x x' → (w = "neg" ∨ w = "outer" ∨ w = "least" ∨ w = "turn" ∨ w = "count") → Cop wf dr dc 4 (.tup [.str w, x]) (.tup [.str w, x']) := fun {w x x'} h hw => by
    refine cop_plain (k := 2) ?_ ?_ ?_ (show CopL wf dr dc 3 [x] [x'] from ⟨h, trivial⟩) (by simp) (by simp)
    · rcases hw with rfl | rfl | rfl | rfl | rfl <;> simp
    · rcases hw with rfl | rfl | rfl | rfl | rfl <;> simp
    · rcases hw with rfl | rfl | rfl | rfl | rfl <;> simp
  have third : Cop wf dr dc 5 (.tup [.str "find", .tup [.str "least", e], .tup [.str "stack", f, a], b]) (.tup [.str "find", .tup [.str "least", e'], .tup [.str "stack", f', a'], b']) :=
    cop_plain (k := 3) (by simp) (by simp) (by simp) ⟨un he (by simp), cop_plain (k := 2) (by simp) (by simp) (by simp) ⟨hf, ha, trivial⟩ (by simp) (by simp), hb.up 1, trivial⟩ (by simp) (by simp)
  cases way with
  | true =>
    refine cop_plain (k := 6) (by simp) (by simp) (by simp) ⟨?_, ?_, ?_, trivial⟩ (by simp) (by simp)
    · exact (cop_op (k := 2) ha ((cop_leaf (.inl rfl)).up 1)).up 3
    · exact (un hb (by simp)).up 3
    · refine (cop_own (k := 4) (show CopL wf dr dc 5 [_, _, _] [_, _, _] from ⟨?_, ?_, third, trivial⟩) (by simp)).up 1
      · exact cop_sumif (k := 3) (hc.up 1) (un hf (by simp)) (un hd (by simp))
      · exact cop_grid (k := 3) (he.up 1) (un hf (by simp))
  | false =>
    refine cop_plain (k := 6) (by simp) (by simp) (by simp) ⟨?_, ?_, ?_, trivial⟩ (by simp) (by simp)
    · exact (cop_leaf (.inr rfl)).up 5
    · exact (cop_op (k := 3) (un ha (by simp)) (un hb (by simp))).up 2
    · refine (cop_own (k := 4) (show CopL wf dr dc 5 [_, _, _] [_, _, _] from ⟨?_, ?_, third, trivial⟩) (by simp)).up 1
      · exact cop_sumif (k := 3) (hc.up 1) ((cop_leaf (.inl rfl)).up 2) (un hd (by simp))
      · exact cop_grid (k := 3) (he.up 1) (un hf (by simp))
theorem e_formula {way : Bool} {a b c d e f : D} : (calls S.Tb wf (n + 1)).call 14 [.lst [a, b, c, d, e, f], .int (if way then 1 else 0)] st = some (.val (FD way a b c d e f), st) := by
  rw [call_eq (fn := b14) rfl, run_eq rfl]
  cases way <;> simp [b14, FD, eqD, D.py, SeqAt.shaped, PyData.canLay0, PyData.depth, PyData.eqv]
end
end Lw

set_option Elab.async false
set_option linter.all false
set_option maxRecDepth 100000
set_option maxHeartbeats 0
/-! k56, part D: data, texts. -/
namespace Lw
open PySem PySem.Spec PyProof.Rows L2 Iv
/-- plain data, of nesting below k and weight below m -/
def Gd (k m : Nat) (x : D) : Prop := ∃ p, x.py = some p ∧ p.canLay0 = true ∧ p.depth ≤ k ∧ p.showable = true ∧ p.leavesShort 13 = true ∧ p.weight ≤ m
def GdL (k m : Nat) (xs : List D) : Prop := ∃ ps, D.pys xs = some ps ∧ PyData.canLayAll0 ps = true ∧ PyData.depthAll ps ≤ k ∧ PyData.showableAll ps = true ∧ PyData.leavesShortAll 13 ps = true ∧ PyData.weightAll ps ≤ m
theorem gd_nil {k m : Nat} : GdL k m [] := ⟨[], rfl, by simp [PyData.canLayAll0], by simp [PyData.depthAll], by simp [PyData.showableAll], by simp [PyData.leavesShortAll], by simp [PyData.weightAll]⟩
theorem gd_cons {k m m' : Nat} {x : D} {xs : List D} (h : Gd k m x) (t : GdL k m' xs) : GdL k (m + 1 + m') (x :: xs) := by
  obtain ⟨p, a1, a2, a3, a4, a5, a6⟩ := h
  obtain ⟨ps, b1, b2, b3, b4, b5, b6⟩ := t
  refine ⟨p :: ps, by simp [D.pys, a1, b1], by simp [PyData.canLayAll0, a2, b2], by simp only [PyData.depthAll]; omega, by simp [PyData.showableAll, a4, b4], by simp [PyData.leavesShortAll, a5, b5], by simp only [PyData.weightAll]; omega⟩
theorem gd_tup {k m : Nat} {xs : List D} (h : GdL k m xs) : Gd (k + 1) m (.tup xs) := by
  obtain ⟨ps, b1, b2, b3, b4, b5, b6⟩ := h
  exact ⟨.tuple ps, by simp [D.py, b1], by simpa [PyData.canLay0] using b2, by simp only [PyData.depth]; omega, by simpa [PyData.showable] using b4, by simpa [PyData.leavesShort] using b5, by simpa [PyData.weight] using b6⟩
theorem Gd.up {k k' m m' : Nat} {x : D} (h : Gd k m x) (hk : k ≤ k') (hm : m ≤ m') : Gd k' m' x := by
  obtain ⟨p, a1, a2, a3, a4, a5, a6⟩ := h
  exact ⟨p, a1, a2, by omega, a4, a5, by omega⟩
theorem eqD_refl {k m : Nat} {x : D} (h : Gd k m x) (hk : k ≤ 64) : eqD x x = some true := by
  obtain ⟨p, a1, a2, a3, _⟩ := h
  have s : SeqAt.shaped p = true := by
    unfold SeqAt.shaped
    simp only [Bool.and_eq_true, decide_eq_true_eq]
    exact ⟨a2, by omega⟩
  simp only [eqD, a1, s, Bool.and_self, if_true, SeqAt.eqv_refl p a2]
theorem str_tup {k m : Nat} {xs : List D} (h : GdL k m xs) (hk : k ≤ 60) (hm : m ≤ 204000) : ∃ ps, D.pys xs = some ps ∧ strD (.tup xs) = some (.str (PyData.tuple ps).shown) := by
  obtain ⟨ps, b1, b2, b3, b4, b5, b6⟩ := h
  have hd : (PyData.tuple ps).hasDict = false := PyData.hasDict_of_canLay _ (by simpa [PyData.canLay0] using b2)
  have hl : (PyData.tuple ps).shown.length ≤ 16777216 := by
    have := PyData.shown_le 13 (by omega) (.tuple ps) (by simpa [PyData.leavesShort] using b5)
    simp only [PyData.weight] at this
    omega
  have hs : (PyData.tuple ps).showable = true := by simpa [PyData.showable] using b4
  refine ⟨ps, b1, ?_⟩
  simp [strD, b1, hd, hs, hl, PyData.depth]
  omega
/-! ### gone in a text -/
def gon : Str := "gone"
def Hg (p : PyData) : Prop := gon.cps.toList <:+: p.shown.cps.toList
theorem cps_app (a b : Str) : (a ++ b).cps.toList = a.cps.toList ++ b.cps.toList := by
  show (a.cps ++ b.cps).toList = _
  simp
theorem in_join {x : List Nat} {t : Str} : ∀ {ts : List Str}, t ∈ ts → x <:+: t.cps.toList → x <:+: (Str.join ", " ts).cps.toList
  | [], h, _ => by simp at h
  | [a], h, hx => by
    have : t = a := by simpa using h
    subst this
    exact hx
  | a :: b :: r, h, hx => by
    show x <:+: (a ++ ", " ++ Str.join ", " (b :: r)).cps.toList
    rw [cps_app, cps_app]
    rcases List.mem_cons.mp h with rfl | h
    · exact List.IsInfix.trans (List.IsInfix.trans hx (List.prefix_append _ _).isInfix) (List.prefix_append _ _).isInfix
    · exact List.IsInfix.trans (in_join h hx) (List.suffix_append _ _).isInfix
theorem in_tup {x : List Nat} {t : Str} {ts : List Str} (h : t ∈ ts) (hx : x <:+: t.cps.toList) : x <:+: (tupleText ts).cps.toList := by
  unfold tupleText
  rw [cps_app, cps_app]
  exact List.IsInfix.trans (List.IsInfix.trans (in_join h hx) (List.suffix_append _ _).isInfix) (List.prefix_append _ _).isInfix
theorem shown_mem {p : PyData} : ∀ {ps : List PyData}, p ∈ ps → p.shown ∈ PyData.shownAll ps
  | [], h => by simp at h
  | q :: ps, h => by
    rw [PyData.shownAll]
    rcases List.mem_cons.mp h with rfl | h
    · exact List.mem_cons_self
    · exact List.mem_cons_of_mem _ (shown_mem h)
theorem hg_tup {p : PyData} {ps : List PyData} (h : Hg p) (hp : p ∈ ps) : Hg (.tuple ps) := by
  unfold Hg at h ⊢
  rw [PyData.shown]
  exact in_tup (shown_mem hp) h
theorem found {x : Str} (h : gon.cps.toList <:+: x.cps.toList) (st : Sto) : inD st (.str "gone") (.str x) = some true := by
  have key : (!(Builtin.Str.occurrences x gon 0 x.length 1).isEmpty) = true := by
    rw [StrLaws.found_iff]
    obtain ⟨s, t, e⟩ := h
    refine ⟨s.length, ?_, ?_⟩
    · show s.length + gon.cps.size ≤ x.cps.size
      have := congrArg List.length e
      simp only [List.length_append, Array.length_toList] at this
      omega
    · rw [StrLaws.subAt_eq, ← e]
      simp [Str.length]
  show some (!(Builtin.Str.occurrences x gon 0 x.length 1).isEmpty) = _
  rw [key]
/-- a gone one stands in it -/
def Hd (x : D) : Prop := ∀ p, x.py = some p → Hg p
theorem hd_gone : Hd (.tup [.str "gone"]) := fun p h => by
  simp only [D.py, D.pys, Option.bind_some, Option.map_some, Option.some.injEq] at h
  subst h
  show gon.cps.toList <:+: (PyData.shown (.tuple [.str "gone"])).cps.toList
  have e : (PyData.shown (.tuple [.str "gone"])).cps.toList = [40, 39] ++ [103, 111, 110, 101] ++ [39, 44, 41] := by kernel_rfl
  rw [e]
  exact ⟨[40, 39], [39, 44, 41], by kernel_rfl⟩
theorem pys_mem {x : D} : ∀ {xs : List D} {ps : List PyData}, D.pys xs = some ps → x ∈ xs → ∃ p ∈ ps, x.py = some p
  | [], _, _, h => by simp at h
  | y :: ys, ps, e, h => by
    simp only [D.pys, Option.bind_eq_some_iff, Option.map_eq_some_iff] at e
    obtain ⟨q, e1, l, e2, rfl⟩ := e
    rcases List.mem_cons.mp h with rfl | h
    · exact ⟨q, List.mem_cons_self, e1⟩
    · obtain ⟨p, h1, h2⟩ := pys_mem e2 h
      exact ⟨p, List.mem_cons_of_mem _ h1, h2⟩
theorem hd_tup {x : D} {xs : List D} (h : Hd x) (hx : x ∈ xs) : Hd (.tup xs) := fun p e => by
  simp only [D.py, Option.map_eq_some_iff] at e
  obtain ⟨ps, e1, rfl⟩ := e
  obtain ⟨q, h1, h2⟩ := pys_mem e1 hx
  exact hg_tup (h q h2) h1
theorem hd_F {way : Bool} {a b c d e f : D} (h : Hd a ∨ Hd b ∨ Hd c ∨ Hd d ∨ Hd e ∨ Hd f) : Hd (FD way a b c d e f) := by
  have third : Hd a ∨ Hd b ∨ Hd e ∨ Hd f → Hd (.tup [.str "find", .tup [.str "least", e], .tup [.str "stack", f, a], b]) := by
    rintro (h | h | h | h)
    · exact hd_tup (hd_tup h (xs := [.str "stack", f, a]) (by simp)) (by simp)
    · exact hd_tup h (by simp)
    · exact hd_tup (hd_tup h (xs := [.str "least", e]) (by simp)) (by simp)
    · exact hd_tup (hd_tup h (xs := [.str "stack", f, a]) (by simp)) (by simp)
  have rest : ∀ {q r : D}, Hd a ∨ Hd b ∨ Hd c ∨ Hd d ∨ Hd e ∨ Hd f → Hd (.tup [.tup [.str "sumif", c, .str "<", q, .tup [.str "outer", d]], .tup [.str "grid", .int 2, .int 3, e, r], .tup [.str "find", .tup [.str "least", e], .tup [.str "stack", f, a], b]]) := by
    rintro q r (h | h | h | h | h | h)
    · exact hd_tup (third (.inl h)) (by simp)
    · exact hd_tup (third (.inr (.inl h))) (by simp)
    · exact hd_tup (hd_tup h (xs := [.str "sumif", c, .str "<", q, .tup [.str "outer", d]]) (by simp)) (by simp)
    · exact hd_tup (hd_tup (hd_tup h (xs := [.str "outer", d]) (by simp)) (xs := [.str "sumif", c, .str "<", q, .tup [.str "outer", d]]) (by simp)) (by simp)
    · exact hd_tup (third (.inr (.inr (.inl h)))) (by simp)
    · exact hd_tup (third (.inr (.inr (.inr h)))) (by simp)
  unfold FD
  cases way
  · exact hd_tup (hd_tup (rest h) (.tail _ (.tail _ (.head _)))) (.tail _ (.tail _ (.tail _ (.head _))))
  · exact hd_tup (hd_tup (rest h) (.tail _ (.tail _ (.head _)))) (.tail _ (.tail _ (.tail _ (.head _))))
end Lw

set_option Elab.async false
set_option linter.all false
set_option maxRecDepth 100000
set_option maxHeartbeats 0
/-! k56, part E: the algebra of ways. -/
namespace Lw
open PySem PySem.Spec PyProof.Rows L2 Iv
def inr_ (x : Int × Bool) (last : Int) : Prop := 1 ≤ x.1 ∧ x.1 ≤ last
theorem pr_0 {x y : Int × Bool} {last : Int} (hx : inr_ x last) (hy : inr_ y last) (h : x.1 ≤ y.1) : pr x y 0 last = some (x, y) := by
  obtain ⟨i, s⟩ := x
  obtain ⟨j, t⟩ := y
  obtain ⟨h1, h2⟩ := hx
  obtain ⟨h3, h4⟩ := hy
  dsimp only at h h1 h2 h3 h4
  have e1 : ¬ (i < 1 ∨ last < i) := by omega
  have e2 : ¬ (j < 1 ∨ last < j) := by omega
  cases s <;> cases t <;> simp [pr, mv, e1, e2, h]
theorem mv_of {i w k last : Int} {s : Bool} (h : mv i w s last = some k) : (s = true ∧ k = i) ∨ (s = false ∧ k = i + w ∧ 1 ≤ k ∧ k ≤ last) := by
  unfold mv at h
  cases s
  · refine .inr ⟨rfl, ?_⟩
    simp only [Bool.false_eq_true, if_false] at h
    split at h
    · cases h
    · cases h
      omega
  · refine .inl ⟨rfl, ?_⟩
    simpa using h.symm
theorem mv_st {i w last : Int} : mv i w true last = some i := rfl
theorem mv_go {i w last : Int} (h1 : 1 ≤ i + w) (h2 : i + w ≤ last) : mv i w false last = some (i + w) := by
  unfold mv
  rw [if_neg (by simp), if_neg (by omega)]
theorem mv_no {i w last : Int} (h : ¬ (1 ≤ i + w ∧ i + w ≤ last)) : mv i w false last = none := by
  unfold mv
  rw [if_neg (by simp), if_pos (by omega)]
theorem pr_of {x y u v : Int × Bool} {w last : Int} (h : pr x y w last = some (u, v)) : ∃ f g, mv x.1 w x.2 last = some f ∧ mv y.1 w y.2 last = some g ∧ ((f ≤ g ∧ u = (f, x.2) ∧ v = (g, y.2)) ∨ (g < f ∧ u = (g, y.2) ∧ v = (f, x.2))) := by
  unfold pr at h
  simp only [Option.bind_eq_some_iff] at h
  obtain ⟨f, e1, g, e2, e3⟩ := h
  refine ⟨f, g, e1, e2, ?_⟩
  split at e3
  · cases e3
    exact .inl ⟨by assumption, rfl, rfl⟩
  · cases e3
    exact .inr ⟨by omega, rfl, rfl⟩
theorem pr_mk {x y : Int × Bool} {w last f g : Int} (h1 : mv x.1 w x.2 last = some f) (h2 : mv y.1 w y.2 last = some g) (h : f ≤ g) : pr x y w last = some ((f, x.2), (g, y.2)) := by
  unfold pr
  rw [h1, h2]
  simp [h]
theorem pr_in {x y u v : Int × Bool} {w last : Int} (hx : inr_ x last) (hy : inr_ y last) (h : pr x y w last = some (u, v)) : inr_ u last ∧ inr_ v last ∧ u.1 ≤ v.1 := by
  obtain ⟨f, g, e1, e2, e3⟩ := pr_of h
  obtain ⟨h1, h2⟩ := hx
  obtain ⟨h3, h4⟩ := hy
  have k1 := mv_of e1
  have k2 := mv_of e2
  unfold inr_
  rcases e3 with ⟨o, rfl, rfl⟩ | ⟨o, rfl, rfl⟩ <;> dsimp only <;> omega
theorem pr_kept {x y u v : Int × Bool} {w last : Int} (hxy : x.1 ≤ y.1) (h : pr x y w last = some (u, v)) (h1 : u.2 = x.2) (h2 : v.2 = y.2) :
    mv x.1 w x.2 last = some u.1 ∧ mv y.1 w y.2 last = some v.1 ∧ u.1 ≤ v.1 := by
  obtain ⟨f, g, e1, e2, e3⟩ := pr_of h
  have k1 := mv_of e1
  have k2 := mv_of e2
  rcases e3 with ⟨o, rfl, rfl⟩ | ⟨o, rfl, rfl⟩
  · exact ⟨e1, e2, o⟩
  · dsimp only at h1 h2
    rcases k1 with ⟨a1, a2⟩ | ⟨a1, a2, _⟩ <;> rcases k2 with ⟨b1, b2⟩ | ⟨b1, b2, _⟩
    · omega
    · rw [a1, b1] at h1
      cases h1
    · rw [a1, b1] at h1
      cases h1
    · omega
theorem pr_back {x y u v : Int × Bool} {w last : Int} (hx : inr_ x last) (hy : inr_ y last) (hxy : x.1 ≤ y.1) (h : pr x y w last = some (u, v)) (h1 : u.2 = x.2) (h2 : v.2 = y.2) : pr u v (-w) last = some (x, y) := by
  obtain ⟨k1, k2, k3⟩ := pr_kept hxy h h1 h2
  obtain ⟨i, s⟩ := x
  obtain ⟨j, t⟩ := y
  obtain ⟨k, a⟩ := u
  obtain ⟨l, b⟩ := v
  obtain ⟨h3, h4⟩ := hx
  obtain ⟨h5, h6⟩ := hy
  dsimp only at h1 h2 h3 h4 h5 h6 k1 k2 k3 hxy
  subst h1 h2
  have m1 : mv k (-w) a last = some i := by
    rcases mv_of k1 with ⟨rfl, rfl⟩ | ⟨rfl, rfl, _⟩
    · rfl
    · rw [mv_go (by omega) (by omega)]
      congr 1
      omega
  have m2 : mv l (-w) b last = some j := by
    rcases mv_of k2 with ⟨rfl, rfl⟩ | ⟨rfl, rfl, _⟩
    · rfl
    · rw [mv_go (by omega) (by omega)]
      congr 1
      omega
  exact pr_mk (x := (k, a)) (y := (l, b)) m1 m2 hxy
theorem mv_both {i k w w' last : Int} {s : Bool} (h : mv i w s last = some k) : mv k w' s last = mv i (w + w') s last := by
  rcases mv_of h with ⟨rfl, rfl⟩ | ⟨rfl, rfl, _⟩
  · rfl
  · unfold mv
    rw [show i + w + w' = i + (w + w') from by omega]
    simp
theorem pr_both {x y u v : Int × Bool} {w w' last : Int} (hxy : x.1 ≤ y.1) (h : pr x y w last = some (u, v)) (h1 : u.2 = x.2) (h2 : v.2 = y.2) : pr u v w' last = pr x y (w + w') last := by
  obtain ⟨k1, k2, k3⟩ := pr_kept hxy h h1 h2
  unfold pr
  rw [h1, h2, mv_both k1, mv_both k2]
/-! ### references: in order, moved -/
def Rf.so : Rf → Prop
  | .rng _ p q => p.r ≤ q.r ∧ p.c ≤ q.c
  | .col _ x y => x.1 ≤ y.1
  | _ => True
/-- how a reference stands -/
def Rf.st : Rf → List (Bool × Bool)
  | .cell _ p => [(p.a, p.b)]
  | .rng _ p q => [(p.a, p.b), (q.a, q.b)]
  | .col _ x y => [(x.2, x.2), (y.2, y.2)]
  | .gone => []
/-- moved, and not exchanged -/
def kept (R : Rf) (dr dc : Int) : Prop := due R dr dc ≠ .gone ∧ (due R dr dc).st = R.st
theorem due_ok {R : Rf} (h : R.ok) (dr dc : Int) : (due R dr dc).ok := by
  cases R with
  | gone => trivial
  | cell s p =>
    obtain ⟨hs, hp⟩ := h
    unfold due
    dsimp only
    split
    · rename_i u v e1 e2
      obtain ⟨a1, _⟩ := pr_in (x := (p.r, p.a)) (y := (p.r, p.a)) hp.1 hp.1 e1
      obtain ⟨a2, _⟩ := pr_in (x := (p.c, p.b)) (y := (p.c, p.b)) hp.2 hp.2 e2
      exact ⟨hs, a1, a2⟩
    · trivial
  | rng s p q =>
    obtain ⟨hs, hp, hq⟩ := h
    unfold due
    dsimp only
    split
    · rename_i u v e1 e2
      obtain ⟨a1, b1, _⟩ := pr_in (x := (p.r, p.a)) (y := (q.r, q.a)) hp.1 hq.1 e1
      obtain ⟨a2, b2, _⟩ := pr_in (x := (p.c, p.b)) (y := (q.c, q.b)) hp.2 hq.2 e2
      exact ⟨hs, ⟨a1, a2⟩, b1, b2⟩
    · trivial
  | col s x y =>
    obtain ⟨hs, hp, hq⟩ := h
    unfold due
    dsimp only
    split
    · rename_i v e2
      obtain ⟨a2, b2, _⟩ := pr_in (u := v.1) (v := v.2) hp hq e2
      exact ⟨hs, a2, b2⟩
    · trivial
theorem due_0 {R : Rf} (h : R.ok) (o : R.so) : due R 0 0 = R := by
  cases R with
  | gone => rfl
  | cell s p =>
    unfold due
    dsimp only
    rw [pr_0 (x := (p.r, p.a)) (y := (p.r, p.a)) h.2.1 h.2.1 (Int.le_refl _), pr_0 (x := (p.c, p.b)) (y := (p.c, p.b)) h.2.2 h.2.2 (Int.le_refl _)]
  | rng s p q =>
    unfold due
    dsimp only
    rw [pr_0 (x := (p.r, p.a)) (y := (q.r, q.a)) h.2.1.1 h.2.2.1 o.1, pr_0 (x := (p.c, p.b)) (y := (q.c, q.b)) h.2.1.2 h.2.2.2 o.2]
  | col s x y =>
    unfold due
    dsimp only
    rw [pr_0 h.2.1 h.2.2 o]
theorem due_back {R : Rf} {dr dc : Int} (h : R.ok) (o : R.so) (k : kept R dr dc) : due (due R dr dc) (-dr) (-dc) = R := by
  obtain ⟨k1, k2⟩ := k
  cases R with
  | gone => rfl
  | cell s p =>
    unfold due at k1 k2 ⊢
    dsimp only at k1 k2 ⊢
    cases e1 : pr (p.r, p.a) (p.r, p.a) dr 16 with
    | none => simp [e1] at k1
    | some u =>
      cases e2 : pr (p.c, p.b) (p.c, p.b) dc 8 with
      | none => simp [e1, e2] at k1
      | some v =>
        obtain ⟨u1, u2⟩ := u
        obtain ⟨v1, v2⟩ := v
        obtain ⟨f, g, m1, m2, m3⟩ := pr_of e1
        obtain ⟨f', g', m1', m2', m3'⟩ := pr_of e2
        rw [m1] at m2
        cases m2
        rw [m1'] at m2'
        cases m2'
        obtain ⟨_, rfl, rfl⟩ : f ≤ f ∧ u1 = (f, p.a) ∧ u2 = (f, p.a) := by rcases m3 with z | z; exact z; omega
        obtain ⟨_, rfl, rfl⟩ : f' ≤ f' ∧ v1 = (f', p.b) ∧ v2 = (f', p.b) := by rcases m3' with z | z; exact z; omega
        have b1 := pr_back (x := (p.r, p.a)) (y := (p.r, p.a)) h.2.1 h.2.1 (Int.le_refl _) e1 rfl rfl
        have b2 := pr_back (x := (p.c, p.b)) (y := (p.c, p.b)) h.2.2 h.2.2 (Int.le_refl _) e2 rfl rfl
        simp only [b1, b2]
  | rng s p q =>
    unfold due at k1 k2 ⊢
    dsimp only at k1 k2 ⊢
    cases e1 : pr (p.r, p.a) (q.r, q.a) dr 16 with
    | none => simp [e1] at k1
    | some u =>
      cases e2 : pr (p.c, p.b) (q.c, q.b) dc 8 with
      | none => simp [e1, e2] at k1
      | some v =>
        obtain ⟨u1, u2⟩ := u
        obtain ⟨v1, v2⟩ := v
        simp only [e1, e2, Rf.st, List.cons.injEq, Prod.mk.injEq, and_true] at k2
        obtain ⟨⟨s1, s2⟩, s3, s4⟩ := k2
        have b1 := pr_back (x := (p.r, p.a)) (y := (q.r, q.a)) h.2.1.1 h.2.2.1 o.1 e1 s1 s3
        have b2 := pr_back (x := (p.c, p.b)) (y := (q.c, q.b)) h.2.1.2 h.2.2.2 o.2 e2 s2 s4
        simp only [b1, b2]
  | col s x y =>
    unfold due at k1 k2 ⊢
    dsimp only at k1 k2 ⊢
    cases e2 : pr x y dc 8 with
    | none => simp [e2] at k1
    | some v =>
      obtain ⟨v1, v2⟩ := v
      simp only [e2, Rf.st, List.cons.injEq, Prod.mk.injEq, and_true, and_self] at k2
      have b2 := pr_back h.2.1 h.2.2 o e2 k2.1 k2.2
      simp only [b2]
theorem due_both {R : Rf} {dr dc er ec : Int} (h : R.ok) (o : R.so) (k : kept R dr dc) : due (due R dr dc) er ec = due R (dr + er) (dc + ec) := by
  obtain ⟨k1, k2⟩ := k
  cases R with
  | gone => rfl
  | cell s p =>
    unfold due at k1 k2 ⊢
    dsimp only at k1 k2 ⊢
    cases e1 : pr (p.r, p.a) (p.r, p.a) dr 16 with
    | none => simp [e1] at k1
    | some u =>
      cases e2 : pr (p.c, p.b) (p.c, p.b) dc 8 with
      | none => simp [e1, e2] at k1
      | some v =>
        obtain ⟨u1, u2⟩ := u
        obtain ⟨v1, v2⟩ := v
        obtain ⟨f, g, m1, m2, m3⟩ := pr_of e1
        obtain ⟨f', g', m1', m2', m3'⟩ := pr_of e2
        rw [m1] at m2
        cases m2
        rw [m1'] at m2'
        cases m2'
        obtain ⟨_, rfl, rfl⟩ : f ≤ f ∧ u1 = (f, p.a) ∧ u2 = (f, p.a) := by rcases m3 with z | z; exact z; omega
        obtain ⟨_, rfl, rfl⟩ : f' ≤ f' ∧ v1 = (f', p.b) ∧ v2 = (f', p.b) := by rcases m3' with z | z; exact z; omega
        have b1 := pr_both (x := (p.r, p.a)) (y := (p.r, p.a)) (w' := er) (Int.le_refl _) e1 rfl rfl
        have b2 := pr_both (x := (p.c, p.b)) (y := (p.c, p.b)) (w' := ec) (Int.le_refl _) e2 rfl rfl
        simp only [b1, b2]
  | rng s p q =>
    unfold due at k1 k2 ⊢
    dsimp only at k1 k2 ⊢
    cases e1 : pr (p.r, p.a) (q.r, q.a) dr 16 with
    | none => simp [e1] at k1
    | some u =>
      cases e2 : pr (p.c, p.b) (q.c, q.b) dc 8 with
      | none => simp [e1, e2] at k1
      | some v =>
        obtain ⟨u1, u2⟩ := u
        obtain ⟨v1, v2⟩ := v
        simp only [e1, e2, Rf.st, List.cons.injEq, Prod.mk.injEq, and_true] at k2
        obtain ⟨⟨s1, s2⟩, s3, s4⟩ := k2
        have b1 := pr_both (x := (p.r, p.a)) (y := (q.r, q.a)) (w' := er) o.1 e1 s1 s3
        have b2 := pr_both (x := (p.c, p.b)) (y := (q.c, q.b)) (w' := ec) o.2 e2 s2 s4
        simp only [b1, b2]
  | col s x y =>
    unfold due at k1 k2 ⊢
    dsimp only at k1 k2 ⊢
    cases e2 : pr x y dc 8 with
    | none => simp [e2] at k1
    | some v =>
      obtain ⟨v1, v2⟩ := v
      simp only [e2, Rf.st, List.cons.injEq, Prod.mk.injEq, and_true, and_self] at k2
      have b2 := pr_both (w' := ec) o e2 k2.1 k2.2
      simp only [b2]
end Lw

set_option Elab.async false
set_option linter.all false
set_option maxRecDepth 100000
set_option maxHeartbeats 0
/-! k56, part F: what is compared, what is exchanged. -/
namespace Lw
open PySem PySem.Spec PyProof.Rows L2 Iv
theorem gdU {k m : Nat} : ∀ {xs : List D}, (∀ x ∈ xs, Gd k m x) → GdL k (xs.length * (m + 1)) xs
  | [], _ => by simpa using (gd_nil (k := k) (m := 0))
  | x :: xs, h => by
    have := gd_cons (h x List.mem_cons_self) (gdU fun y hy => h y (List.mem_cons_of_mem _ hy))
    rw [List.length_cons, Nat.add_mul, Nat.one_mul, Nat.add_comm]
    exact this
theorem gdT {k m m' : Nat} {xs : List D} (h : ∀ x ∈ xs, Gd k m x) (hm : xs.length * (m + 1) ≤ m') : Gd (k + 1) m' (.tup xs) := (gd_tup (gdU h)).up (Nat.le_refl _) hm
def strB (w : Str) : Bool := PyData.strOk w && ((PyData.str w).leavesShort 13 && decide (w.cps.size ≤ 10))
theorem gd_str {w : Str} (h : strB w = true) : Gd 0 10 (.str w) := by
  unfold strB at h
  simp only [Bool.and_eq_true, decide_eq_true_eq] at h
  exact ⟨.str w, rfl, by simpa [PyData.canLay0] using h.1, by simp [PyData.depth], by simp [PyData.showable], h.2.1, by simpa [PyData.weight] using h.2.2⟩
theorem gd_non : Gd 0 10 .non := ⟨.none, rfl, by simp [PyData.canLay0], by simp [PyData.depth], by simp [PyData.showable], by simp [PyData.leavesShort], by simp [PyData.weight]⟩
theorem gd_bl {b : Bool} : Gd 0 10 (.bl b) := ⟨.bool b, rfl, by simp [PyData.canLay0], by simp [PyData.depth], by simp [PyData.showable], by simp [PyData.leavesShort], by simp [PyData.weight]⟩
def intB (i : Int) : Bool := (PyData.int i).canLay0 && ((PyData.int i).showable && ((PyData.int i).leavesShort 13 && decide ((PyData.int i).weight ≤ 10)))
theorem gd_int {i : Int} (h : intB i = true) : Gd 0 10 (.int i) := by
  unfold intB at h
  simp only [Bool.and_eq_true, decide_eq_true_eq] at h
  exact ⟨.int i, rfl, h.1, by simp [PyData.depth], h.2.1, h.2.2.1, h.2.2.2⟩
theorem gd_i {i : Int} (h1 : 1 ≤ i) (h2 : i ≤ 16) : Gd 0 10 (.int i) := by
  have : i = 1 ∨ i = 2 ∨ i = 3 ∨ i = 4 ∨ i = 5 ∨ i = 6 ∨ i = 7 ∨ i = 8 ∨ i = 9 ∨ i = 10 ∨ i = 11 ∨ i = 12 ∨ i = 13 ∨ i = 14 ∨ i = 15 ∨ i = 16 := by omega
  rcases this with rfl | rfl | rfl | rfl | rfl | rfl | rfl | rfl | rfl | rfl | rfl | rfl | rfl | rfl | rfl | rfl <;> exact gd_int (by kernel_rfl)
theorem gd_s {s : D} (h : sOk s) : Gd 0 10 s := by
  rcases h with rfl | rfl | rfl
  · exact gd_non
  · exact gd_str (by kernel_rfl)
  · exact gd_str (by kernel_rfl)
theorem gd_cn {p : Cn} (h : p.ok) : Gd 1 44 p.d := by
  refine gdT (k := 0) (m := 10) ?_ (by simp)
  simp only [List.mem_cons, List.not_mem_nil, or_false]
  rintro x (rfl | rfl | rfl | rfl)
  · exact gd_i h.1.1 h.1.2
  · exact gd_i h.2.1 (by have := h.2.2; omega)
  · exact gd_bl
  · exact gd_bl
theorem gd_x {x : Int × Bool} (h : xOk x) : Gd 1 44 (pD x) := by
  refine gdT (k := 0) (m := 10) ?_ (by simp)
  simp only [List.mem_cons, List.not_mem_nil, or_false]
  rintro y (rfl | rfl)
  · exact gd_i h.1 (by have := h.2; omega)
  · exact gd_bl
theorem gd_R {R : Rf} (h : R.ok) : Gd 2 180 R.d := by
  have lo : ∀ {x : D}, Gd 0 10 x → Gd 1 44 x := fun h => h.up (by omega) (by omega)
  cases R with
  | gone =>
    refine gdT (k := 1) (m := 44) ?_ (by simp)
    simp only [List.mem_cons, List.not_mem_nil, or_false]
    rintro x rfl
    exact lo (gd_str (by kernel_rfl))
  | cell s p =>
    refine gdT (k := 1) (m := 44) ?_ (by simp)
    simp only [List.mem_cons, List.not_mem_nil, or_false]
    rintro x (rfl | rfl | rfl)
    · exact lo (gd_str (by kernel_rfl))
    · exact lo (gd_s h.1)
    · exact gd_cn h.2
  | rng s p q =>
    refine gdT (k := 1) (m := 44) ?_ (by simp)
    simp only [List.mem_cons, List.not_mem_nil, or_false]
    rintro x (rfl | rfl | rfl | rfl)
    · exact lo (gd_str (by kernel_rfl))
    · exact lo (gd_s h.1)
    · exact gd_cn h.2.1
    · exact gd_cn h.2.2
  | col s p q =>
    refine gdT (k := 1) (m := 44) ?_ (by simp)
    simp only [List.mem_cons, List.not_mem_nil, or_false]
    rintro x (rfl | rfl | rfl | rfl)
    · exact lo (gd_str (by kernel_rfl))
    · exact lo (gd_s h.1)
    · exact gd_x h.2.1
    · exact gd_x h.2.2
theorem gdA {k m : Nat} {P : D → Prop} : (∀ x ∈ ([] : List D), Gd k m x) := fun x h => by simp at h
theorem gdC {k m : Nat} {x : D} {xs : List D} (h : Gd k m x) (t : ∀ y ∈ xs, Gd k m y) : ∀ y ∈ x :: xs, Gd k m y := fun y hy => by
  rcases List.mem_cons.mp hy with rfl | hy
  · exact h
  · exact t y hy
theorem gd_F {way : Bool} {a b c d e f : D} (ha : Gd 2 180 a) (hb : Gd 2 180 b) (hc : Gd 2 180 c) (hd : Gd 2 180 d) (he : Gd 2 180 e) (hf : Gd 2 180 f) : ∃ xs, FD way a b c d e f = .tup xs ∧ GdL 6 204000 xs := by
  have s : ∀ {w : Str} {k m : Nat}, strB w = true → 10 ≤ m → Gd k m (.str w) := fun h hm => (gd_str h).up (by omega) hm
  have nil : ∀ {k m : Nat}, (∀ x ∈ ([] : List D), Gd k m x) := fun x h => by simp at h
  have un : ∀ {w : Str} {x : D}, strB w = true → Gd 2 180 x → Gd 3 1000 (.tup [.str w, x]) := fun h hx => gdT (gdC (s h (by omega)) (gdC hx nil)) (by simp)
  have u3 : ∀ {x : D}, Gd 2 180 x → Gd 3 1000 x := fun h => h.up (by omega) (by omega)
  have s3 : ∀ {w : Str}, strB w = true → Gd 3 1000 (.str w) := fun h => s h (by omega)
  have s2 : ∀ {w : Str}, strB w = true → Gd 2 180 (.str w) := fun h => s h (by omega)
  have s1 : ∀ {w : Str}, strB w = true → Gd 1 10 (.str w) := fun h => s h (by omega)
  have s5 : ∀ {w : Str}, strB w = true → Gd 5 15400 (.str w) := fun h => s h (by omega)
  have s6 : ∀ {w : Str}, strB w = true → Gd 6 50000 (.str w) := fun h => s h (by omega)
  have i1 : ∀ {i : Int}, 1 ≤ i ∧ i ≤ 16 → Gd 1 10 (.int i) := fun h => (gd_i h.1 h.2).up (by omega) (by omega)
  have i3 : ∀ {i : Int}, 1 ≤ i ∧ i ≤ 16 → Gd 3 1000 (.int i) := fun h => (gd_i h.1 h.2).up (by omega) (by omega)
  have d3 : Gd 3 1000 (.tup [.str "stack", f, a]) := gdT (gdC (s2 (by kernel_rfl)) (gdC hf (gdC ha nil))) (by simp)
  have th : Gd 4 5000 (.tup [.str "find", .tup [.str "least", e], .tup [.str "stack", f, a], b]) := gdT (gdC (s3 (by kernel_rfl)) (gdC (un (by kernel_rfl) he) (gdC d3 (gdC (u3 hb) nil)))) (by simp)
  have leafy : ∀ {w v : Str}, strB w = true → strB v = true → Gd 3 1000 (.tup [.str w, .str v]) := fun h h' => gdT (gdC (s2 h) (gdC (s2 h') nil)) (by simp)
  have v0 : Gd 2 180 (.tup [.str "text", .str "a 1"]) := gdT (gdC (s1 (by kernel_rfl)) (gdC (s1 (by kernel_rfl)) nil)) (by simp)
  have va : Gd 3 1000 (.tup [.str "value", .tup [.str "text", .str "a 1"]]) := gdT (gdC (s2 (by kernel_rfl)) (gdC v0 nil)) (by simp)
  have v1 : Gd 2 180 (.tup [.str "number", .int 2, .int 1]) := gdT (gdC (s1 (by kernel_rfl)) (gdC (i1 (by omega)) (gdC (i1 (by omega)) nil))) (by simp)
  have vn : Gd 3 1000 (.tup [.str "value", .tup [.str "number", .int 2, .int 1]]) := gdT (gdC (s2 (by kernel_rfl)) (gdC v1 nil)) (by simp)
  have grid : ∀ {x : D}, Gd 3 1000 x → Gd 4 5100 (.tup [.str "grid", .int 2, .int 3, e, x]) := fun hx => gdT (gdC (s3 (by kernel_rfl)) (gdC (i3 (by omega)) (gdC (i3 (by omega)) (gdC (u3 he) (gdC hx nil))))) (by simp)
  have sumif : ∀ {x : D}, Gd 3 1000 x → Gd 4 5100 (.tup [.str "sumif", c, .str "<", x, .tup [.str "outer", d]]) := fun hx => gdT (gdC (s3 (by kernel_rfl)) (gdC (u3 hc) (gdC (s3 (by kernel_rfl)) (gdC hx (gdC (un (by kernel_rfl) hd) nil))))) (by simp)
  have th4 : Gd 4 5100 (.tup [.str "find", .tup [.str "least", e], .tup [.str "stack", f, a], b]) := th.up (by omega) (by omega)
  have inner : ∀ {x y : D}, Gd 4 5100 x → Gd 4 5100 y → Gd 5 15400 (.tup [x, y, .tup [.str "find", .tup [.str "least", e], .tup [.str "stack", f, a], b]]) := fun hx hy => gdT (gdC hx (gdC hy (gdC th4 nil))) (by simp)
  have own : ∀ {x y : D}, Gd 4 5100 x → Gd 4 5100 y → Gd 6 50000 (.tup [.str "own", .str "f", .tup [x, y, .tup [.str "find", .tup [.str "least", e], .tup [.str "stack", f, a], b]]]) := fun hx hy => gdT (gdC (s5 (by kernel_rfl)) (gdC (s5 (by kernel_rfl)) (gdC (inner hx hy) nil))) (by simp)
  have u6 : ∀ {x : D}, Gd 3 1000 x → Gd 6 50000 x := fun h => h.up (by omega) (by omega)
  have op : ∀ {o : Str} {x y : D}, strB o = true → Gd 3 1000 x → Gd 3 1000 y → Gd 6 50000 (.tup [.str "op", .str o, x, y]) := fun {o x y} ho hx hy =>
    (show Gd 4 5100 (.tup [.str "op", .str o, x, y]) from gdT (gdC (s3 (by kernel_rfl)) (gdC (s3 ho) (gdC hx (gdC hy nil)))) (by simp)).up (by omega) (by omega)
  have fin : ∀ {x y z : D}, Gd 6 50000 x → Gd 6 50000 y → Gd 6 50000 z → GdL 6 204000 [.str "if", x, y, z] := fun {x y z} hx hy hz => by
    have := gdU (gdC (s6 (w := "if") (by kernel_rfl)) (gdC hx (gdC hy (gdC hz nil))))
    exact this.elim fun ps h => ⟨ps, h.1, h.2.1, h.2.2.1, h.2.2.2.1, h.2.2.2.2.1, Nat.le_trans h.2.2.2.2.2 (by simp)⟩
  unfold FD
  cases way
  · exact ⟨_, rfl, fin (u6 (leafy (by kernel_rfl) (by kernel_rfl))) (op (by kernel_rfl) (un (by kernel_rfl) ha) (un (by kernel_rfl) hb)) (own (sumif va) (grid (un (by kernel_rfl) hf)))⟩
  · exact ⟨_, rfl, fin (op (by kernel_rfl) (u3 ha) vn) (u6 (un (by kernel_rfl) hb)) (own (sumif (un (by kernel_rfl) hf)) (grid (un (by kernel_rfl) hf)))⟩
end Lw

set_option Elab.async false
set_option linter.all false
set_option maxRecDepth 100000
set_option maxHeartbeats 0
/-! k56, part G: standing, exchanged; drawing. -/
namespace Lw
open PySem PySem.Spec PyProof.Rows L2 Iv
instance (R : Rf) : Decidable (R = .gone) := match R with
  | .gone => .isTrue rfl
  | .cell _ _ => .isFalse (by simp)
  | .rng _ _ _ => .isFalse (by simp)
  | .col _ _ _ => .isFalse (by simp)
def stD : Rf → List D
  | .cell _ p => [.tup [.bl p.a, .bl p.b]]
  | .rng _ p q => [.tup [.bl p.a, .bl p.b], .tup [.bl q.a, .bl q.b]]
  | .col _ x y => [.tup [.bl x.2], .tup [.bl y.2]]
  | .gone => []
section
variable {wf n : Nat} {st : Sto}
theorem fd2 : decide ((0 : Int) < 2) && decide ((2 : Int).natAbs.log2 < 9000) = true := by decide
theorem e_standing (R : Rf) : (calls S.Tb wf (n + 1)).call 15 [R.d] st = some (.lst (stD R), st) := by
  rw [call_eq (fn := b15) rfl, run_eq rfl]
  have l2 : Nat.log2 2 < 9000 := by decide
  cases R <;> simp [b15, Rf.d, Cn.d, pD, stD, lcGo, wipeE, l2]
theorem eq_gone (R : Rf) (h : R.ok) : eqD R.d (.tup [.str "gone"]) = some (decide (R = .gone)) := by
  have sg : ∀ {R : Rf}, R.ok → ∃ p, R.d.py = some p ∧ SeqAt.shaped p = true := fun {R} h => by
    obtain ⟨p, a1, a2, a3, _⟩ := gd_R h
    refine ⟨p, a1, ?_⟩
    unfold SeqAt.shaped
    simp only [Bool.and_eq_true, decide_eq_true_eq]
    exact ⟨a2, by omega⟩
  obtain ⟨p, h1, h2⟩ := sg h
  obtain ⟨q, h3, h4⟩ := sg (R := .gone) trivial
  have h3' : (D.tup [.str "gone"]).py = some q := h3
  simp only [eqD, h1, h3', h2, h4, Bool.and_self, if_true]
  simp only [D.py, D.pys, Option.bind_some, Option.map_some, Option.some.injEq] at h3'
  subst h3'
  cases R with
  | gone =>
    have h1' : (D.tup [.str "gone"]).py = some p := h1
    simp only [D.py, D.pys, Option.bind_some, Option.map_some, Option.some.injEq] at h1'
    subst h1'
    simp [PyData.eqv, PyData.eqvAll]
  | cell s p' =>
    simp only [Rf.d, D.py, D.pys, Option.bind_some, Option.bind_eq_some_iff, Option.map_eq_some_iff] at h1
    obtain ⟨l, ⟨l2, ⟨x, _, l3, _, rfl⟩, rfl⟩, rfl⟩ := h1
    simp [PyData.eqv, PyData.eqvAll]
  | rng s p' q' =>
    simp only [Rf.d, D.py, D.pys, Option.bind_some, Option.bind_eq_some_iff, Option.map_eq_some_iff] at h1
    obtain ⟨l, ⟨l2, ⟨x, _, l3, _, rfl⟩, rfl⟩, rfl⟩ := h1
    simp [PyData.eqv, PyData.eqvAll]
  | col s p' q' =>
    simp only [Rf.d, D.py, D.pys, Option.bind_some, Option.bind_eq_some_iff, Option.map_eq_some_iff] at h1
    obtain ⟨l, ⟨l2, ⟨x, _, l3, _, rfl⟩, rfl⟩, rfl⟩ := h1
    simp [PyData.eqv, PyData.eqvAll]
def Rf.shape : Rf → Nat
  | .cell _ _ => 0
  | .rng _ _ _ => 1
  | .col _ _ _ => 2
  | .gone => 3
theorem due_shape (R : Rf) (dr dc : Int) : due R dr dc = .gone ∨ (due R dr dc).shape = R.shape := by
  cases R with
  | gone => exact .inl rfl
  | cell s p =>
    unfold due
    dsimp only
    cases pr (p.r, p.a) (p.r, p.a) dr 16 <;> cases pr (p.c, p.b) (p.c, p.b) dc 8 <;> first | exact .inl rfl | exact .inr rfl
  | rng s p q =>
    unfold due
    dsimp only
    cases pr (p.r, p.a) (q.r, q.a) dr 16 <;> cases pr (p.c, p.b) (q.c, q.b) dc 8 <;> first | exact .inl rfl | exact .inr rfl
  | col s x y =>
    unfold due
    dsimp only
    cases pr x y dc 8 <;> first | exact .inl rfl | exact .inr rfl
theorem eq_sts (R R' : Rf) (h : R'.shape = R.shape) : eqD (.lst (stD R')) (.lst (stD R)) = some (decide (R'.st = R.st)) := by
  cases R <;> cases R' <;> first | (simp [Rf.shape] at h; done) | skip
  case cell.cell s p s' p' =>
    obtain ⟨r, c, a, b⟩ := p
    obtain ⟨r', c', a', b'⟩ := p'
    simp only [stD, Rf.st]
    cases a <;> cases b <;> cases a' <;> cases b' <;> simp [eqD, D.py, D.pys, SeqAt.shaped, PyData.canLay0, PyData.canLayAll0, PyData.depth, PyData.depthAll, PyData.eqv, PyData.eqvAll]
  case rng.rng s p q s' p' q' =>
    obtain ⟨r, c, a, b⟩ := p
    obtain ⟨r', c', a', b'⟩ := p'
    obtain ⟨_, _, d, e⟩ := q
    obtain ⟨_, _, d', e'⟩ := q'
    simp only [stD, Rf.st]
    cases a <;> cases b <;> cases a' <;> cases b' <;> cases d <;> cases e <;> cases d' <;> cases e' <;> simp [eqD, D.py, D.pys, SeqAt.shaped, PyData.canLay0, PyData.canLayAll0, PyData.depth, PyData.depthAll, PyData.eqv, PyData.eqvAll]
  case col.col s p q s' p' q' =>
    obtain ⟨_, a⟩ := p
    obtain ⟨_, b⟩ := q
    obtain ⟨_, a'⟩ := p'
    obtain ⟨_, b'⟩ := q'
    simp only [stD, Rf.st]
    cases a <;> cases b <;> cases a' <;> cases b' <;> simp [eqD, D.py, D.pys, SeqAt.shaped, PyData.canLay0, PyData.canLayAll0, PyData.depth, PyData.depthAll, PyData.eqv, PyData.eqvAll]
  case gone.gone => rfl
theorem eq_st (R : Rf) (dr dc : Int) (h : due R dr dc ≠ .gone) : eqD (.lst (stD (due R dr dc))) (.lst (stD R)) = some (decide ((due R dr dc).st = R.st)) :=
  eq_sts R _ ((due_shape R dr dc).resolve_left h)
/-- the loop over the parts -/
theorem ex_go {dr dc : Int} {c0 : Option Rv} {f : D → Iv.Env → Sto → Option (Fl × Iv.Env × Sto)} (hf : ∀ (R : Rf), R.ok → R ≠ .gone → ∀ (p q : Option Rv), f R.d [c0, some (.val (.int dr)), some (.val (.int dc)), p, q] st =
      if decide (due R dr dc ≠ .gone) && decide ((due R dr dc).st = R.st) then some (.nx, [c0, some (.val (.int dr)), some (.val (.int dc)), some (.val R.d), some (.val (due R dr dc).d)], st)
      else some (.rt (.val (.bl true)), [c0, some (.val (.int dr)), some (.val (.int dc)), some (.val R.d), some (.val (due R dr dc).d)], st)) :
    ∀ (Rs : List Rf) (p q : Option Rv), (∀ R ∈ Rs, R.ok ∧ R ≠ .gone) → (∃ env, forGo f (fun _ => true) (Rs.map Rf.d) [c0, some (.val (.int dr)), some (.val (.int dc)), p, q] st = some (.rt (.val (.bl true)), env, st)) ∨
      ((∃ p' q', forGo f (fun _ => true) (Rs.map Rf.d) [c0, some (.val (.int dr)), some (.val (.int dc)), p, q] st = some (.nx, [c0, some (.val (.int dr)), some (.val (.int dc)), p', q'], st)) ∧ ∀ R ∈ Rs, kept R dr dc)
  | [], p, q, _ => .inr ⟨⟨p, q, by simp [forGo]⟩, fun R hR => by simp at hR⟩
  | R :: Rs, p, q, h => by
    obtain ⟨h1, h2⟩ := h R List.mem_cons_self
    have e := hf R h1 h2 p q
    have step : forGo f (fun _ => true) ((R :: Rs).map Rf.d) [c0, some (.val (.int dr)), some (.val (.int dc)), p, q] st = (f R.d [c0, some (.val (.int dr)), some (.val (.int dc)), p, q] st).bind fun p => match p.1 with
        | .nx => forGo f (fun _ => true) (Rs.map Rf.d) p.2.1 p.2.2
        | .ct => forGo f (fun _ => true) (Rs.map Rf.d) p.2.1 p.2.2
        | .bk => some (.nx, p.2.1, p.2.2)
        | .rt v => some (.rt v, p.2.1, p.2.2) := by
      rw [List.map_cons, forGo, if_pos rfl] <;> rfl
    by_cases k : (decide (due R dr dc ≠ .gone) && decide ((due R dr dc).st = R.st)) = true
    · rw [if_pos k] at e
      rw [step, e]
      simp only [Option.bind_some]
      simp only [Bool.and_eq_true, decide_eq_true_eq] at k
      rcases ex_go hf Rs (some (.val R.d)) (some (.val (due R dr dc).d)) (fun R' h' => h R' (List.mem_cons_of_mem _ h')) with z | ⟨z, z2⟩
      · exact .inl z
      · refine .inr ⟨?_, fun R' h' => ?_⟩
        · exact z
        · rcases List.mem_cons.mp h' with rfl | h'
          · exact k
          · exact z2 R' h'
    · rw [if_neg k] at e
      rw [step, e]
      exact .inl ⟨_, rfl⟩
theorem for_eval {C : Calls} {t : T} {i : Nat} {B : Ss} {env : Iv.Env} {xs : List D} (e : env[i]? = some (some (.val (.lst xs)))) (hl : xs.length ≤ 1000000) :
    exS C wf (.for_ t (.seq (.var i)) B) env st = forGo (fun x env st => (Iv.bind C t x env st).bind fun q => exSs C wf B q.1 q.2) (fun _ => true) xs env st := by
  have h : evIt C (.seq (.var i)) env st false = some (.vals xs, st) := by
    simp [e, hl]
  rw [exS, h]
  rfl
theorem e_exchanged (Rs : List Rf) (dr dc : Int) (h : ∀ R ∈ Rs, R.ok ∧ R ≠ .gone) (hl : Rs.length ≤ 1000) :
    (calls S.Tb wf (n + 4)).call 16 [.lst (Rs.map Rf.d), .int dr, .int dc] st = some (.val (.bl true), st) ∨
      ((calls S.Tb wf (n + 4)).call 16 [.lst (Rs.map Rf.d), .int dr, .int dc] st = some (.val (.bl false), st) ∧ ∀ R ∈ Rs, kept R dr dc) := by
  have ed : ∀ (R : Rf), R ≠ .gone → (calls S.Tb wf (n + 3)).call 13 [R.d, .int dr, .int dc] st = some (.val (due R dr dc).d, st) := fun R h => e_due (n := n) R h dr dc
  have es : ∀ (R : Rf), (calls S.Tb wf (n + 3)).call 15 [R.d] st = some (.lst (stD R), st) := fun R => e_standing (n := n + 2) R
  have hl' : (Rs.map Rf.d).length ≤ 1000000 := by simp; omega
  rw [call_eq (fn := b16) rfl, run_eq rfl]
  have z := ex_go (st := st) (dr := dr) (dc := dc) (c0 := some (.val (.lst (Rs.map Rf.d)))) (f := fun x env st => (Iv.bind (calls S.Tb wf (n + 3)) (.nm 3) x env st).bind fun q => exSs (calls S.Tb wf (n + 3)) wf (.cons (.asg 4 (.call 13 (.cons (.var 3) (.cons (.var 1) (.cons (.var 2) .nil))))) (.cons (.ifs (.or (.cmp .eq (.var 4) (.tup (.cons (.con (.str "gone")) .nil))) (.cmp .ne (.call 15 (.cons (.var 4) .nil)) (.call 15 (.cons (.var 3) .nil)))) (.cons (.ret (.con (.bl true))) .nil) .nil) .nil)) q.1 q.2)
    (fun R hR hg p q => by
      have e1 := ed R hg
      have e2 := es R
      have e3 := es (due R dr dc)
      have e4 := eq_gone (due R dr dc) (due_ok hR dr dc)
      by_cases hd : due R dr dc = .gone
      · have e4' : eqD Rf.gone.d (.tup [.str "gone"]) = some true := eq_gone .gone trivial
        simp [e1, e2, e3, e4', hd]
      · have e4' : eqD (due R dr dc).d (.tup [.str "gone"]) = some false := by
          rw [e4, decide_eq_false hd]
        have e5 := eq_st R dr dc hd
        by_cases hs : (due R dr dc).st = R.st
        · simp [e1, e2, e3, e4', e5, hd, hs]
        · simp [e1, e2, e3, e4', e5, hd, hs]) Rs none none h
  rcases z with ⟨env, z⟩ | ⟨⟨p, q, z⟩, z2⟩
  · left
    show (exSs _ wf (.cons _ _) [some (.val (.lst (Rs.map Rf.d))), some (.val (.int dr)), some (.val (.int dc)), none, none] st).bnd _ = _
    rw [exSs, for_eval rfl hl']
    show ((forGo _ _ _ _ _).bind _).bnd _ = _
    rw [z]
    rfl
  · refine .inr ⟨?_, z2⟩
    show (exSs _ wf (.cons _ _) [some (.val (.lst (Rs.map Rf.d))), some (.val (.int dr)), some (.val (.int dc)), none, none] st).bnd _ = _
    rw [exSs, for_eval rfl hl']
    show ((forGo _ _ _ _ _).bind _).bnd _ = _
    rw [z]
    rfl
end
end Lw

set_option Elab.async false
set_option linter.all false
set_option maxRecDepth 100000
set_option maxHeartbeats 0
/-! k56, part H: drawing. -/
namespace Lw
open PySem PySem.Spec PyProof.Rows L2 Iv
@[simp] theorem eq_int {i j : Int} : eqD (.int i) (.int j) = some (decide (i = j)) := by
  by_cases h : i = j <;> simp [eqD, D.py, PyData.eqv, SeqAt.shaped, PyData.canLay0, PyData.depth, h]
def Pen (st : Sto) (n : Nat) (k : Int) : Prop := ∃ x t, st[n]? = some (.lst [.int x, .bl t, .int k])
section
variable {wf n : Nat} {st : Sto} {ns : List Int}
theorem e_at (k : Int) (hk : 0 ≤ k) : ∃ v, (calls S.Tb wf (n + 1)).call 5 [.scr (ns.map D.int), .int k] st = some (.val (.int v), st) := by
  rw [call_eq (fn := b5) rfl, run_eq rfl]
  obtain ⟨j, rfl⟩ : ∃ j : Nat, k = (j : Int) := ⟨k.toNat, by omega⟩
  by_cases h : j < ns.length
  · exact ⟨ns[j], by simp [b5, h, Iv.atI_nat]⟩
  · exact ⟨0, by simp [b5, h]⟩
theorem e_pen (k : Int) (hk : 0 ≤ k) : ∃ x t, (calls S.Tb wf (n + 2)).call 6 [.scr (ns.map D.int), .int k] st = some (.val (.ref st.length), st ++ [.lst [.int x, .bl t, .int k]]) := by
  obtain ⟨v, e⟩ := e_at (wf := wf) (n := n) (st := st) (ns := ns) k hk
  obtain ⟨u, e'⟩ := e_at (wf := wf) (n := n) (st := st) (ns := ns) 0 (by omega)
  rw [call_eq (fn := b6) rfl, run_eq rfl]
  exact ⟨v, decide (u % 2 = 0), by simp [b6, e, e']⟩
theorem small_lt {i : Int} (h1 : -18446744073709551616 < i) (h2 : i < 18446744073709551616) : small i = true := small_of (by omega) (by omega)
theorem e_draw {p : Nat} {k m : Int} (hp : Pen st p k) (hk : 0 ≤ k ∧ k < 1000) (hm : 0 < m ∧ m < 1000) :
    ∃ r st' k', (calls S.Tb wf (n + 1)).call 7 [.ref p, .int m] st = some (.val (.int r), st') ∧ (0 ≤ r ∧ r < m) ∧ Pen st' p k' ∧ (0 ≤ k' ∧ k' ≤ k + 1) := by
  obtain ⟨x, t, e⟩ := hp
  have hp : p < st.length := (List.getElem?_eq_some_iff.mp e).1
  have i1 : ∀ (i : Int), ixR st (.ref p) (.int i) = atI [.int x, .bl t, .int k] i := fun i => ix_ref e
  have lm : m.natAbs.log2 < 9000 := by
    have : m.natAbs.log2 < 10 := (Nat.log2_lt (by omega)).mpr (by omega)
    omega
  rw [call_eq (fn := b7) rfl, run_eq rfl]
  cases t with
  | true =>
    refine ⟨x % m, st.set p (.lst [.int (x / m), .bl true, .int k]), k, ?_, ⟨Int.emod_nonneg _ (by omega), Int.emod_lt_of_pos _ hm.1⟩, ⟨x / m, true, by simp [hp]⟩, by omega⟩
    simp [b7, i1, hm.1, lm, setO_lst e]
  | false =>
    have e2 : (st.set p (.lst [.int x, .bl false, .int (k + 1)]))[p]? = some (.lst [.int x, .bl false, .int (k + 1)]) := by simp [hp]
    have i2 : ∀ (i : Int), ixR (st.set p (.lst [.int x, .bl false, .int (k + 1)])) (.ref p) (.int i) = atI [.int x, .bl false, .int (k + 1)] i := fun i => ix_ref e2
    have s1 : small (k + 1) = true := small_lt (by omega) (by omega)
    have s2 : small (x % 2147483647 + 1) = true := by
      have := Int.emod_nonneg x (show (2147483647 : Int) ≠ 0 by omega)
      have := Int.emod_lt_of_pos x (show (0 : Int) < 2147483647 by omega)
      exact small_lt (by omega) (by omega)
    have s3 : small 3 = true := by decide
    have s4 : ∀ y : Int, small (y % 2147483629 + 3 * (k + 1)) = true := fun y => by
      have := Int.emod_nonneg y (show (2147483629 : Int) ≠ 0 by omega)
      have := Int.emod_lt_of_pos y (show (0 : Int) < 2147483629 by omega)
      exact small_lt (by omega) (by omega)
    have l7 : Nat.log2 7 < 9000 := by decide
    let y : Int := (x % 2147483647 + 1) * ((k + 1) * (k + 1) + 48271) % 2147483629
    refine ⟨(y + 3 * (k + 1)) * (y + 11) % 2147483587 / 7 % m, st.set p (.lst [.int x, .bl false, .int (k + 1)]), k + 1, ?_, ⟨Int.emod_nonneg _ (by omega), Int.emod_lt_of_pos _ hm.1⟩, ⟨x, false, e2⟩, by omega⟩
    simp [b7, i1, i2, setO_lst e, s1, s2, s3, s4, l7, hm.1, y, lm]
end
end Lw

set_option Elab.async false
set_option linter.all false
set_option maxRecDepth 100000
set_option maxHeartbeats 0
/-! k56, part I: references drawn. -/
namespace Lw
open PySem PySem.Spec PyProof.Rows L2 Iv
theorem pd_py (x : Int × Bool) : (pD x).pyD = .tuple [.int x.1, .bool x.2] := rfl
theorem lt_ib (x y : Int × Bool) : (PySem.W.dataLt (.tuple [.int x.1, .bool x.2]) (.tuple [.int y.1, .bool y.2]) = true → x.1 ≤ y.1) ∧ (PySem.W.dataLt (.tuple [.int x.1, .bool x.2]) (.tuple [.int y.1, .bool y.2]) = false → y.1 ≤ x.1) := by
  rw [PySem.W.dataLt_pair (by simp [PySem.W.alike]) (by simp [PySem.W.alike]), PySem.W.dataLt_int]
  simp only [PyData.eqv, beq_iff_eq]
  by_cases h : x.1 = y.1
  · simp [h]
  · rw [if_neg h]
    simp only [decide_eq_true_eq, decide_eq_false_iff_not]
    omega
theorem sort_pair (x y : Int × Bool) : ∃ u v, sortD [pD x, pD y] = some [pD u, pD v] ∧ u.1 ≤ v.1 ∧ ((u = x ∧ v = y) ∨ (u = y ∧ v = x)) := by
  have e : sortD [pD x, pD y] = some ([pD x, pD y].mergeSort (PySem.W.dataLe false D.pyD)) := by
    simp [sortD, D.pys, D.py, pD, alikeB, PySem.W.alike, PySem.W.alikeAll, tupB, PyData.depth, PyData.depthAll]
  have e2 : [pD x, pD y].mergeSort (PySem.W.dataLe false D.pyD) = if PySem.W.dataLt (.tuple [.int y.1, .bool y.2]) (.tuple [.int x.1, .bool x.2]) then [pD y, pD x] else [pD x, pD y] := by
    have e3 : PySem.W.dataLe false D.pyD (pD x) (pD y) = !PySem.W.dataLt (.tuple [.int y.1, .bool y.2]) (.tuple [.int x.1, .bool x.2]) := rfl
    rw [List.mergeSort]
    simp only [List.MergeSort.Internal.splitInTwo, List.length_cons, List.length_nil, List.splitAt_eq, List.take, List.drop, List.mergeSort_singleton]
    cases h : PySem.W.dataLt (.tuple [.int y.1, .bool y.2]) (.tuple [.int x.1, .bool x.2]) <;> rw [h] at e3 <;> simp [List.merge, e3]
  rw [e, e2]
  obtain ⟨h1, h2⟩ := lt_ib y x
  cases h : PySem.W.dataLt (.tuple [.int y.1, .bool y.2]) (.tuple [.int x.1, .bool x.2])
  · exact ⟨x, y, by simp, h2 h, .inl ⟨rfl, rfl⟩⟩
  · exact ⟨y, x, by simp, h1 h, .inr ⟨rfl, rfl⟩⟩
section
variable {wf n : Nat} {st : Sto} {ns : List Int}
theorem e_ordered (p q : Cn) (hp : p.ok) (hq : q.ok) : ∃ u v : Cn, (calls S.Tb wf (n + 1)).call 9 [p.d, q.d] st = some (.val (.tup [u.d, v.d]), st) ∧ u.ok ∧ v.ok ∧ u.r ≤ v.r ∧ u.c ≤ v.c := by
  obtain ⟨a, b, e1, e2, e3⟩ := sort_pair (p.r, p.a) (q.r, q.a)
  obtain ⟨c, d, f1, f2, f3⟩ := sort_pair (p.c, p.b) (q.c, q.b)
  refine ⟨⟨a.1, c.1, a.2, c.2⟩, ⟨b.1, d.1, b.2, d.2⟩, ?_, ?_, ?_, e2, f2⟩
  · simp only [pD] at e1 f1
    rw [call_eq (fn := b9) rfl, run_eq rfl]
    simp [b9, Cn.d, e1, f1]
  · obtain ⟨⟨h1, h2⟩, h3, h4⟩ := hp
    obtain ⟨⟨h5, h6⟩, h7, h8⟩ := hq
    rcases e3 with ⟨rfl, rfl⟩ | ⟨rfl, rfl⟩ <;> rcases f3 with ⟨rfl, rfl⟩ | ⟨rfl, rfl⟩ <;> exact ⟨⟨by assumption, by assumption⟩, by assumption, by assumption⟩
  · obtain ⟨⟨h1, h2⟩, h3, h4⟩ := hp
    obtain ⟨⟨h5, h6⟩, h7, h8⟩ := hq
    rcases e3 with ⟨rfl, rfl⟩ | ⟨rfl, rfl⟩ <;> rcases f3 with ⟨rfl, rfl⟩ | ⟨rfl, rfl⟩ <;> exact ⟨⟨by assumption, by assumption⟩, by assumption, by assumption⟩
theorem e_corner {p : Nat} {k : Int} (hp : Pen st p k) (hk : 0 ≤ k ∧ k < 900) :
    ∃ (q : Cn) (st' : Sto) (k' : Int), (calls S.Tb wf (n + 2)).call 8 [.ref p] st = some (.val q.d, st') ∧ q.ok ∧ Pen st' p k' ∧ (0 ≤ k' ∧ k' ≤ k + 4) := by
  obtain ⟨r1, s1, k1, e1, b1, p1, q1⟩ := e_draw (wf := wf) (n := n) (m := 16) hp (by omega) (by omega)
  obtain ⟨r2, s2, k2, e2, b2, p2, q2⟩ := e_draw (wf := wf) (n := n) (m := 8) p1 (by omega) (by omega)
  obtain ⟨r3, s3, k3, e3, b3, p3, q3⟩ := e_draw (wf := wf) (n := n) (m := 2) p2 (by omega) (by omega)
  obtain ⟨r4, s4, k4, e4, b4, p4, q4⟩ := e_draw (wf := wf) (n := n) (m := 2) p3 (by omega) (by omega)
  refine ⟨⟨1 + r1, 1 + r2, decide (r3 = 1), decide (r4 = 1)⟩, s4, k4, ?_, ⟨⟨?_, ?_⟩, ?_, ?_⟩, p4, by omega⟩
  · rw [call_eq (fn := Lw.b8) rfl, run_eq rfl]
    simp [Lw.b8, Cn.d, e1, e2, e3, e4]
  all_goals (dsimp only; omega)
theorem e_reference {k : Int} (hk : 0 ≤ k ∧ k < 800) : ∃ (R : Rf) (st' : Sto), (calls S.Tb wf (n + 3)).call 10 [.scr (ns.map D.int), .int k] st = some (.val R.d, st') ∧ R.ok ∧ R.so ∧ R ≠ .gone := by
  obtain ⟨x, t, e0⟩ := e_pen (wf := wf) (n := n) (st := st) (ns := ns) (2 + k) (by omega)
  have p0 : Pen (st ++ [.lst [.int x, .bl t, .int (2 + k)]]) st.length (2 + k) := ⟨x, t, by simp⟩
  obtain ⟨r1, s1, k1, e1, b1, p1, q1⟩ := e_draw (wf := wf) (n := n + 1) (m := 3) p0 (by omega) (by omega)
  obtain ⟨r2, s2, k2, e2, b2, p2, q2⟩ := e_draw (wf := wf) (n := n + 1) (m := 4) p1 (by omega) (by omega)
  obtain ⟨p, s3, k3, e3, b3, p3, q3⟩ := e_corner (wf := wf) (n := n) p2 (by omega)
  obtain ⟨q, s4, k4, e4, b4, p4, q4⟩ := e_corner (wf := wf) (n := n) p3 (by omega)
  obtain ⟨u, v, e5, hu, hv, o1, o2⟩ := e_ordered (wf := wf) (n := n + 1) (st := s4) p q b3 b4
  have hs : ∃ s, sOk s ∧ ([D.non, .str "a", .str "bc"] : List D)[r1.toNat]? = some s := by
    have : r1 = 0 ∨ r1 = 1 ∨ r1 = 2 := by omega
    rcases this with rfl | rfl | rfl
    · exact ⟨_, .inl rfl, rfl⟩
    · exact ⟨_, .inr (.inl rfl), rfl⟩
    · exact ⟨_, .inr (.inr rfl), rfl⟩
  obtain ⟨s, hs, es⟩ := hs
  have ea : atI ([D.non, .str "a", .str "bc"] : List D) r1 = some s := by
    have : r1 = ((r1.toNat : Nat) : Int) := by omega
    rw [this, Iv.atI_nat, es]
  rw [show n + 1 + 1 = n + 2 from rfl] at e1 e2 e5
  rw [call_eq (fn := b10) rfl, run_eq rfl]
  by_cases c1 : r2 < 2
  · refine ⟨.cell s u, s4, ?_, ⟨hs, hu⟩, trivial, by simp⟩
    simp [b10, e0, e1, ea, e2, e3, e4, e5, c1, Rf.d]
  · by_cases c2 : r2 = 2
    · refine ⟨.rng s u v, s4, ?_, ⟨hs, hu, hv⟩, ⟨o1, o2⟩, by simp⟩
      simp [b10, e0, e1, ea, e2, e3, e4, e5, c1, c2, Rf.d]
    · refine ⟨.col s (u.c, u.b) (v.c, v.b), s4, ?_, ⟨hs, hu.2, hv.2⟩, o2, by simp⟩
      have hu' : u.d = .tup [.int u.r, .int u.c, .bl u.a, .bl u.b] := rfl
      have hv' : v.d = .tup [.int v.r, .int v.c, .bl v.a, .bl v.b] := rfl
      simp [b10, e0, e1, ea, e2, e3, e4, e5, c1, c2, Rf.d, hu', hv', pD]
end
end Lw

set_option Elab.async false
set_option linter.all false
set_option maxRecDepth 100000
set_option maxHeartbeats 0
/-! k56, part J: the law. -/
namespace Lw
open PySem PySem.Spec PyProof.Rows L2 Iv
structure Gr (R : Rf) : Prop where
  ok : R.ok
  so : R.so
  ne : R ≠ .gone
section
variable {wf n : Nat} {st : Sto} {ns : List Int}
theorem in_s (st : Sto) (a b : Str) : inD st (.str a) (.str b) = some (!(Builtin.Str.occurrences b a 0 b.length 1).isEmpty) := rfl
theorem gd_eq {x : D} {xs : List D} {k m : Nat} (e : x = .tup xs) (h : GdL k m xs) (hk : k ≤ 60) : eqD x x = some true := eqD_refl (e ▸ gd_tup h) (by omega)
theorem e_right (way : Bool) (a b c d e f : Rf) (ha : Gr a) (hb : Gr b) (hc : Gr c) (hd : Gr d) (he : Gr e) (hf : Gr f) :
    ∃ st', (calls S.Tb wf (n + 12)).call 17 [.scr (ns.map D.int), .lst [a.d, b.d, c.d, d.d, e.d, f.d], .int (if way then 1 else 0)] st = some (.val (.bl true), st') := by
  obtain ⟨x, t, e0⟩ := e_pen (wf := wf) (n := n + 9) (st := st) (ns := ns) 1 (by omega)
  have p0 : Pen (st ++ [.lst [.int x, .bl t, .int 1]]) st.length 1 := ⟨x, t, by simp⟩
  obtain ⟨r1, s1, k1, e1, b1, p1, q1⟩ := e_draw (wf := wf) (n := n + 10) (m := 31) p0 (by omega) (by omega)
  obtain ⟨r2, s2, k2, e2, b2, p2, q2⟩ := e_draw (wf := wf) (n := n + 10) (m := 15) p1 (by omega) (by omega)
  obtain ⟨r3, s3, k3, e3, b3, p3, q3⟩ := e_draw (wf := wf) (n := n + 10) (m := 9) p2 (by omega) (by omega)
  obtain ⟨r4, s4, k4, e4, b4, p4, q4⟩ := e_draw (wf := wf) (n := n + 10) (m := 5) p3 (by omega) (by omega)
  obtain ⟨r5, s5, k5, e5, b5, p5, q5⟩ := e_draw (wf := wf) (n := n + 10) (m := 2) p4 (by omega) (by omega)
  have hform : ∀ (a b c d e f : D) (st : Sto), (calls S.Tb wf (n + 11)).call 14 [.lst [a, b, c, d, e, f], .int (if way then 1 else 0)] st = some (.val (FD way a b c d e f), st) := fun _ _ _ _ _ _ st => e_formula (n := n + 10)
  have hcop : ∀ (A B C D E F : Rf), A.ok → B.ok → C.ok → D.ok → E.ok → F.ok → ∀ (dr dc : Int) (st : Sto), (calls S.Tb wf (n + 11)).call 4 [FD way A.d B.d C.d D.d E.d F.d, .int dr, .int dc] st =
      some (.val (FD way (due A dr dc).d (due B dr dc).d (due C dr dc).d (due D dr dc).d (due E dr dc).d (due F dr dc).d), st) := fun A B C D E F h1 h2 h3 h4 h5 h6 dr dc st =>
    cop_F (cop_R A h1) (cop_R B h2) (cop_R C h3) (cop_R D h4) (cop_R E h5) (cop_R F h6) (n + 3) st
  have hdue : ∀ (A : Rf), Gr A → ∀ (dr dc : Int) (st : Sto), (calls S.Tb wf (n + 11)).call 13 [A.d, .int dr, .int dc] st = some (.val (due A dr dc).d, st) := fun A h dr dc st => e_due (n := n + 8) A h.ne dr dc
  have hsame : ∀ (A B C D E F : Rf), A.ok → B.ok → C.ok → D.ok → E.ok → F.ok → eqD (FD way A.d B.d C.d D.d E.d F.d) (FD way A.d B.d C.d D.d E.d F.d) = some true := fun A B C D E F h1 h2 h3 h4 h5 h6 => by
    obtain ⟨xs, q, g⟩ := gd_F (way := way) (gd_R h1) (gd_R h2) (gd_R h3) (gd_R h4) (gd_R h5) (gd_R h6)
    exact gd_eq q g (by omega)
  have c1 := hcop a b c d e f ha.ok hb.ok hc.ok hd.ok he.ok hf.ok
  have s_1 : ∀ dr dc, _ := fun dr dc => hsame _ _ _ _ _ _ (due_ok ha.ok dr dc) (due_ok hb.ok dr dc) (due_ok hc.ok dr dc) (due_ok hd.ok dr dc) (due_ok he.ok dr dc) (due_ok hf.ok dr dc)
  have s_0 := hsame a b c d e f ha.ok hb.ok hc.ok hd.ok he.ok hf.ok
  have za := due_0 ha.ok ha.so
  have zb := due_0 hb.ok hb.so
  have zc := due_0 hc.ok hc.so
  have zd := due_0 hd.ok hd.so
  have ze := due_0 he.ok he.so
  have zf := due_0 hf.ok hf.so
  have da := hdue a ha
  have db := hdue b hb
  have dc_ := hdue c hc
  have dd := hdue d hd
  have de := hdue e he
  have df := hdue f hf
  have hx : ∀ (dr dc : Int) (st : Sto), (calls S.Tb wf (n + 11)).call 16 [.lst [a.d, b.d, c.d, d.d, e.d, f.d], .int dr, .int dc] st = some (.val (.bl true), st) ∨
      ((calls S.Tb wf (n + 11)).call 16 [.lst [a.d, b.d, c.d, d.d, e.d, f.d], .int dr, .int dc] st = some (.val (.bl false), st) ∧ (kept a dr dc ∧ kept b dr dc ∧ kept c dr dc ∧ kept d dr dc ∧ kept e dr dc ∧ kept f dr dc)) := fun dr dc st => by
    have := e_exchanged (wf := wf) (n := n + 7) (st := st) [a, b, c, d, e, f] dr dc (fun R hR => by
      simp only [List.mem_cons, List.not_mem_nil, or_false] at hR
      rcases hR with rfl | rfl | rfl | rfl | rfl | rfl
      · exact ⟨ha.ok, ha.ne⟩
      · exact ⟨hb.ok, hb.ne⟩
      · exact ⟨hc.ok, hc.ne⟩
      · exact ⟨hd.ok, hd.ne⟩
      · exact ⟨he.ok, he.ne⟩
      · exact ⟨hf.ok, hf.ne⟩) (by simp)
    rcases this with h | ⟨h, k⟩
    · exact .inl h
    · exact .inr ⟨h, k a (by simp), k b (by simp), k c (by simp), k d (by simp), k e (by simp), k f (by simp)⟩
  have hstr : ∀ (dr dc : Int), ∃ T, strD (FD way (due a dr dc).d (due b dr dc).d (due c dr dc).d (due d dr dc).d (due e dr dc).d (due f dr dc).d) = some (.str T) := fun dr dc => by
    obtain ⟨xs, q, g⟩ := gd_F (way := way) (gd_R (due_ok ha.ok dr dc)) (gd_R (due_ok hb.ok dr dc)) (gd_R (due_ok hc.ok dr dc)) (gd_R (due_ok hd.ok dr dc)) (gd_R (due_ok he.ok dr dc)) (gd_R (due_ok hf.ok dr dc))
    obtain ⟨ps, _, h⟩ := str_tup g (by omega) (by omega)
    exact ⟨_, by rw [q]; exact h⟩
  have l5 : Nat.log2 5 < 9000 := by decide
  have l4 : Nat.log2 4 < 9000 := by decide
  rw [show n + 9 + 2 = n + 11 from rfl] at e0
  rw [show n + 10 + 1 = n + 11 from rfl] at e1 e2 e3 e4 e5
  refine ⟨s5, ?_⟩
  rw [call_eq (fn := b17) rfl, run_eq rfl]
  obtain ⟨d1, hd1⟩ : ∃ z, r1 - 15 = z := ⟨_, rfl⟩
  obtain ⟨d2, hd2⟩ : ∃ z, r2 - 7 = z := ⟨_, rfl⟩
  obtain ⟨o1, ho1⟩ : ∃ z, r3 - 4 = z := ⟨_, rfl⟩
  obtain ⟨o2, ho2⟩ : ∃ z, r4 - 2 = z := ⟨_, rfl⟩
  by_cases h5 : r5 = 1
  · obtain ⟨g1, hg1⟩ : ∃ z, d1 / 5 = z := ⟨_, rfl⟩
    obtain ⟨g2, hg2⟩ : ∃ z, d2 / 4 = z := ⟨_, rfl⟩
    rcases hx g1 g2 s5 with z | ⟨z, ka, kb, kc, kd, ke, kf⟩
    · simp [b17, hform, e0, e1, e2, e3, e4, e5, h5, l5, l4, forGo, lcGo, wipeE, da, db, dc_, dd, de, df, c1, s_1, s_0, za, zb, zc, zd, ze, zf, hd1, hd2, ho1, ho2, hg1, hg2, z]
    · have c2 := hcop _ _ _ _ _ _ (due_ok ha.ok g1 g2) (due_ok hb.ok g1 g2) (due_ok hc.ok g1 g2) (due_ok hd.ok g1 g2) (due_ok he.ok g1 g2) (due_ok hf.ok g1 g2)
      have ba := due_back ha.ok ha.so ka
      have bb := due_back hb.ok hb.so kb
      have bc := due_back hc.ok hc.so kc
      have bd := due_back hd.ok hd.so kd
      have be := due_back he.ok he.so ke
      have bf := due_back hf.ok hf.so kf
      have ta := due_both (er := o1) (ec := o2) ha.ok ha.so ka
      have tb := due_both (er := o1) (ec := o2) hb.ok hb.so kb
      have tc := due_both (er := o1) (ec := o2) hc.ok hc.so kc
      have td := due_both (er := o1) (ec := o2) hd.ok hd.so kd
      have te := due_both (er := o1) (ec := o2) he.ok he.so ke
      have tf := due_both (er := o1) (ec := o2) hf.ok hf.so kf
      obtain ⟨T, hT⟩ := hstr (g1 + o1) (g2 + o2)
      cases hO : (Builtin.Str.occurrences T "gone" 0 T.length 1).isEmpty <;>
        simp [b17, hform, e0, e1, e2, e3, e4, e5, h5, l5, l4, forGo, lcGo, wipeE, da, db, dc_, dd, de, df, c1, s_1, s_0, za, zb, zc, zd, ze, zf, hd1, hd2, ho1, ho2, hg1, hg2, z, c2, ba, bb, bc, bd, be, bf, ta, tb, tc, td, te, tf, hT, in_s, hO]
  · rcases hx d1 d2 s5 with z | ⟨z, ka, kb, kc, kd, ke, kf⟩
    · simp [b17, hform, e0, e1, e2, e3, e4, e5, h5, l5, l4, forGo, lcGo, wipeE, da, db, dc_, dd, de, df, c1, s_1, s_0, za, zb, zc, zd, ze, zf, hd1, hd2, ho1, ho2, z]
    · have c2 := hcop _ _ _ _ _ _ (due_ok ha.ok d1 d2) (due_ok hb.ok d1 d2) (due_ok hc.ok d1 d2) (due_ok hd.ok d1 d2) (due_ok he.ok d1 d2) (due_ok hf.ok d1 d2)
      have ba := due_back ha.ok ha.so ka
      have bb := due_back hb.ok hb.so kb
      have bc := due_back hc.ok hc.so kc
      have bd := due_back hd.ok hd.so kd
      have be := due_back he.ok he.so ke
      have bf := due_back hf.ok hf.so kf
      have ta := due_both (er := o1) (ec := o2) ha.ok ha.so ka
      have tb := due_both (er := o1) (ec := o2) hb.ok hb.so kb
      have tc := due_both (er := o1) (ec := o2) hc.ok hc.so kc
      have td := due_both (er := o1) (ec := o2) hd.ok hd.so kd
      have te := due_both (er := o1) (ec := o2) he.ok he.so ke
      have tf := due_both (er := o1) (ec := o2) hf.ok hf.so kf
      obtain ⟨T, hT⟩ := hstr (d1 + o1) (d2 + o2)
      cases hO : (Builtin.Str.occurrences T "gone" 0 T.length 1).isEmpty <;>
        simp [b17, hform, e0, e1, e2, e3, e4, e5, h5, l5, l4, forGo, lcGo, wipeE, da, db, dc_, dd, de, df, c1, s_1, s_0, za, zb, zc, zd, ze, zf, hd1, hd2, ho1, ho2, z, c2, ba, bb, bc, bd, be, bf, ta, tb, tc, td, te, tf, hT, in_s, hO]
def deep : Nat := 40
def wf_ : Nat := 1000000
theorem run_law (ns : List Int) (_ : ns.length ≤ 63) (_ : ∀ z ∈ ns, Builtin.Int.intBits z ≤ 1048576) : ∃ st, (calls S.Tb wf_ deep).call atLaw [.scr (ns.map D.int)] [] = some (.val (.bl true), st) := by
  obtain ⟨R0, s0, e0, g0⟩ := e_reference (wf := wf_) (n := 36) (st := []) (ns := ns) (k := 0) (by omega)
  obtain ⟨R1, s1, e1, g1⟩ := e_reference (wf := wf_) (n := 36) (st := s0) (ns := ns) (k := 1) (by omega)
  obtain ⟨R2, s2, e2, g2⟩ := e_reference (wf := wf_) (n := 36) (st := s1) (ns := ns) (k := 2) (by omega)
  obtain ⟨R3, s3, e3, g3⟩ := e_reference (wf := wf_) (n := 36) (st := s2) (ns := ns) (k := 3) (by omega)
  obtain ⟨R4, s4, e4, g4⟩ := e_reference (wf := wf_) (n := 36) (st := s3) (ns := ns) (k := 4) (by omega)
  obtain ⟨R5, s5, e5, g5⟩ := e_reference (wf := wf_) (n := 36) (st := s4) (ns := ns) (k := 5) (by omega)
  obtain ⟨s6, e6⟩ := e_right (wf := wf_) (n := 27) (st := s5) (ns := ns) false R0 R1 R2 R3 R4 R5 ⟨g0.1, g0.2.1, g0.2.2⟩ ⟨g1.1, g1.2.1, g1.2.2⟩ ⟨g2.1, g2.2.1, g2.2.2⟩ ⟨g3.1, g3.2.1, g3.2.2⟩ ⟨g4.1, g4.2.1, g4.2.2⟩ ⟨g5.1, g5.2.1, g5.2.2⟩
  obtain ⟨s7, e7⟩ := e_right (wf := wf_) (n := 27) (st := s6) (ns := ns) true R0 R1 R2 R3 R4 R5 ⟨g0.1, g0.2.1, g0.2.2⟩ ⟨g1.1, g1.2.1, g1.2.2⟩ ⟨g2.1, g2.2.1, g2.2.2⟩ ⟨g3.1, g3.2.1, g3.2.2⟩ ⟨g4.1, g4.2.1, g4.2.2⟩ ⟨g5.1, g5.2.1, g5.2.2⟩
  refine ⟨s7, ?_⟩
  show (calls S.Tb wf_ (39 + 1)).call 18 _ _ = _
  simp only [Nat.reduceAdd] at e0 e1 e2 e3 e4 e5 e6 e7
  simp only [Bool.false_eq_true, if_false, if_true] at e6 e7
  rw [call_eq (fn := Lw.b18) rfl, run_eq rfl]
  simp [Lw.b18, e0, e1, e2, e3, e4, e5, e6, e7, lcGo, wipeE, rngD, List.range, List.range.loop]
end
end Lw

open PySem PySem.W PySem.Calls PyProof.Rows in
theorem PySem.Challenge.cw_freshsheet_k56_formulas_copied_holds : PySem.Challenge.rw_freshsheet_k56_formulas_copied.Holds := by
  w_on; o_law
  refine HandSHeadRun.head_any (r := Lw.R) (q := view Lw.R.prog [25]) (H := Lw.hk) (ob := Lw.ob) (M := 4000) (loose := Lw.loose) (d := HandSHeadRun.topDef Lw.R.prog 25) (kwd := []) Lw.ob_eq
    (by kernel_rfl) (fun s => by kernel_rfl) Lw.run (by kernel_rfl) (by kernel_rfl) (by kernel_rfl) (by rfl) (by first | assumption | decide +kernel) (by decide +kernel) ⟨rfl, rfl, rfl, rfl, rfl, by decide +kernel⟩ ?hw ?hc
  case hw => w_witness2
  case hc =>
    refine Iv.walk_iv (l := PySem.Challenge.rw_freshsheet_k56_formulas_copied) (n := 63) (k := Lw.deep) (wf := Lw.wf_) (L := Lw.atLaw) (fn := Lw.b18) (x := "script") (S := Lw.S) rfl (by decide) (by kernel_rfl) ⟨⟨rfl, by decide, by decide⟩, rfl⟩ rfl rfl ?_ Lw.run_law
    intro w mg fa h Y G hmg0
    obtain ⟨K, KX, c⟩ := Y
    have hmg : mg ("law" : PySem.Str) = some (.ref fa) := by
      have e : (HandSHeadRun.topDef Lw.R.prog 25).name = ("law" : PySem.Str) := by kernel_rfl
      rw [← e]
      exact hmg0
    exact ⟨K, _, Iv.top_of (L := Lw.atLaw) (fL := Lw.b18) (xL := "law") Lw.ck rfl rfl KX G hmg c⟩
