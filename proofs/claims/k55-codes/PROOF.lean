import PyProof.Rows.All
import HandS.ForMost
import HandS.ForExc
import HandS.Deep
import HandS.Style
import HandS.Lambda
import PyProof.Rows.SortShellAny
import HandS.Defaults
import PySem.Challenge.RW_grovehouse_k55_codes_of_documents
import HandS.Head0
import HandS.Head1
import HandS.Head2
import HandS.HeadEnd
import HandS.HeadHook1
import HandS.HeadHook2
import HandS.HeadHook3
import HandS.HeadHook4
import HandS.HeadWalk
set_option Elab.async false
section
set_option linter.all false
/-! PL0: plain data, a small language of expressions and statements, its meaning. -/
namespace PL
open PySem L2
noncomputable section

/-- data: tuples and frozen lists are what they hold; a ref is the number of a thing that changes -/
inductive D where
  | non | bl (b : Bool) | int (i : Int) | str (s : Str) | tup (xs : List D) | lst (xs : List D) | scr (xs : List D) | ref (n : Nat)
deriving Inhabited

/-- operations on values -/
inductive P where
  | add | sub | mul | fdiv | mod | pow | neg
  | eq | ne | lt | le | gt | ge | isN | notN | in_ | notIn
  | idx | sl (lo hi : Bool)
  | len | isTup | int_ | abs | sum | any | all | list | tuple | sorted | join
deriving DecidableEq, Inhabited

/-- targets -/
inductive G where
  | nm (i : Nat) | tup (gs : List G)

mutual
inductive E where
  | var (i : Nat) | mv (i : Nat) | pop (i : Nat) | cst (d : D) | tup (es : List E) | lst (es : List E)
  | hlst (es : List E) | hdict (ks : List Str) (vs : List E)
  | prim (p : P) (es : List E)
  | and_ (a b : E) | or_ (a b : E) | not_ (a : E) | ite (c a b : E)
  | chain (p q : P) (a b c : E)
  | call (f : Nat) (es : List E)
  | comp (own : List Nat) (s : Src) (g : G) (e : E)
  | compIf (own : List Nat) (s : Src) (g : G) (c e : E)
  | tried (h : Nat) (e : E)
inductive Src where
  | of (e : E) | range (hi : E) | range2 (lo hi : E)
end

inductive St where
  | asg (g : G) (e : E) | swap (is : List Nat) (es : List E) | aug (i : Nat) (p : P) (e : E)
  | append (i : Nat) (e : E) | extend (i : Nat) (e : E)
  | hput (o k e : E) | happend (o e : E)
  | expr (e : E)
  | if_ (c : E) (a b : List St) | while_ (c : E) (b : List St) | for_ (g : G) (s : Src) (b : List St)
  | ret (e : E) | retN | cont | brk | pass | raise (c : Nat)
  | freeze (i : Nat)

/-- a value at hand: data, or an own list that nothing else holds -/
inductive T where
  | d (x : D) | ol (xs : List D)
deriving Inhabited

/-- things that change and that several names may hold: dicts with keys that are texts; lists -/
inductive AO where
  | dct (kvs : List (Str × D)) | lst (xs : List D)

abbrev Hs := List AO
structure S where
  sl : List (Option T)
  hp : Hs

inductive R (α : Type) where
  | ok (a : α) (s : S) | ex (c : Nat) (h : Hs) | bad

abbrev M (α : Type) := S → R α
def ret (a : α) : M α := fun s => .ok a s
def bind (m : M α) (f : α → M β) : M β := fun s => match m s with
  | .ok a s' => f a s'
  | .ex c h => .ex c h
  | .bad => .bad
def fail : M α := fun _ => .bad
def lift : Option α → M α
  | some a => fun s => .ok a s
  | none => fun _ => .bad
/-- a look at the state -/
def see (f : S → Option α) : M α := fun s => match f s with
  | some a => .ok a s
  | none => .bad

/-- what is read: a value, or the own thing in a slot -/
inductive Av where
  | t (x : T) | sl (i : Nat)

def T.toD : T → D
  | .d x => x
  | .ol xs => .lst xs
def slot (s : S) (i : Nat) : Option T := match s.sl[i]? with
  | some (some x) => some x
  | _ => none
def Av.get (s : S) : Av → Option T
  | .t x => some x
  | .sl i => slot s i
def gets (s : S) : List Av → Option (List T)
  | [] => some []
  | a :: r => match a.get s, gets s r with
    | some x, some xs => some (x :: xs)
    | _, _ => none

/-! ### the equality of data -/
mutual
def D.dep : D → Nat
  | .tup xs => deps xs + 1
  | .lst xs => deps xs + 1
  | _ => 0
def deps : List D → Nat
  | [] => 0
  | x :: xs => max x.dep (deps xs)
end
mutual
/-- == of data -/
def D.eqv : D → D → Bool
  | .non, .non => true
  | .int i, .int j => i == j
  | .str x, .str y => x == y
  | .tup xs, .tup ys => eqvs xs ys
  | .lst xs, .lst ys => eqvs xs ys
  | _, _ => false
def eqvs : List D → List D → Bool
  | [], [] => true
  | x :: xs, y :: ys => x.eqv y && eqvs xs ys
  | _, _ => false
end
mutual
/-- no ref, no bool: == tells what it is -/
def D.pure : D → Bool
  | .ref _ => false
  | .scr _ => false
  | .bl _ => false
  | .tup xs => pures xs
  | .lst xs => pures xs
  | _ => true
def pures : List D → Bool
  | [] => true
  | x :: xs => x.pure && pures xs
end
/-- may stand at a side of == -/
def D.fit (x : D) : Bool := x.pure && decide (x.dep ≤ 60)

def toInts : List D → Option (List Int)
  | [] => some []
  | .int i :: r => match toInts r with
    | some l => some (i :: l)
    | none => none
  | _ :: _ => none
def toBls : List D → Option (List Bool)
  | [] => some []
  | .bl i :: r => match toBls r with
    | some l => some (i :: l)
    | none => none
  | _ :: _ => none
def toStrs : List D → Option (List Str)
  | [] => some []
  | .str i :: r => match toStrs r with
    | some l => some (i :: l)
    | none => none
  | _ :: _ => none

/-- sizes stay below this -/
theorem big_ex : ∃ n : Nat, n = 16000000 := ⟨_, rfl⟩
noncomputable def big : Nat := Classical.choose big_ex
theorem big_eq : big = 16000000 := Classical.choose_spec big_ex

/-! ### dicts -/
def kGet (kvs : List (Str × D)) (k : Str) : Option D := match kvs with
  | [] => none
  | (x, v) :: r => if x == k then some v else kGet r k
def kPut (kvs : List (Str × D)) (k : Str) (v : D) : List (Str × D) :=
  if kvs.any (fun q => q.1 == k) then kvs.map (fun q => if q.1 == k then (q.1, v) else q) else kvs ++ [(k, v)]

/-! ### views -/
/-- the items of a list -/
def lstOf (h : Hs) : T → Option (List D)
  | .d (.lst xs) => some xs
  | .ol xs => some xs
  | .d (.ref n) => match h[n]? with
    | some (.lst xs) => some xs
    | _ => none
  | _ => none
/-- the items of a list or tuple -/
def seqOf (h : Hs) : T → Option (List D)
  | .d (.tup xs) => some xs
  | t => lstOf h t
/-- the signs of a text, one by one -/
def signsOf (z : Str) : List D := z.cps.toList.map fun c => .str ⟨#[c]⟩
def truth (h : Hs) : T → Option Bool
  | .d (.bl b) => some b
  | _ => none

def cutD (xs : List D) (lo hi : Option Int) : List D := (xs.drop (HT.sIx xs.length 0 lo)).take (HT.sIx xs.length xs.length hi - HT.sIx xs.length 0 lo)

def inD (x : D) (xs : List D) : Bool := xs.any fun y => y.eqv x
def T.fitP : T → Option D
  | .d x => if x.fit then some x else none
  | .ol xs => if (D.lst xs).fit then some (.lst xs) else none

/-! ### sorting texts -/
def ltZ (x y : Str) : Bool := PySem.Spec.ltCps x.cps.toList y.cps.toList
def insZ (x : Str) : List Str → List Str
  | [] => [x]
  | y :: ys => if ltZ y x then y :: insZ x ys else x :: y :: ys
def sortZ : List Str → List Str
  | [] => []
  | x :: xs => insZ x (sortZ xs)

def cmpI (f : Int → Int → Bool) : List T → Option T
  | [.d (.int i), .d (.int j)] => some (.d (.bl (f i j)))
  | _ => none
def opI (c : Int → Int → Bool) (f : Int → Int → Int) : List T → Option T
  | [.d (.int i), .d (.int j)] => if c i j then some (.d (.int (f i j))) else none
  | _ => none
def small (i : Int) : Bool := decide (-(2 ^ 64) < i) && decide (i < 2 ^ 64)
def addL (h : Hs) (a b : T) : Option T := match lstOf h a, lstOf h b with
  | some xs, some ys => if xs.length + ys.length < big then some (.ol (xs ++ ys)) else none
  | _, _ => none
def addT (h : Hs) : T → T → Option T
  | .d (.int i), .d (.int j) => some (.d (.int (i + j)))
  | .d (.str x), .d (.str y) => if x.length + y.length < big then some (.d (.str (x ++ y))) else none
  | a, b => addL h a b
def repD (xs : List D) : Nat → List D
  | 0 => []
  | n + 1 => xs ++ repD xs n
def mulL (h : Hs) (a : T) (k : Int) : Option T := match lstOf h a with
  | some xs => if xs.length * k.toNat < big ∧ k < big ∧ -(big : Int) < k then some (.ol (repD xs k.toNat)) else none
  | none => none
def mulT (h : Hs) : T → T → Option T
  | .d (.int i), .d (.int j) => if small i || small j then some (.d (.int (i * j))) else none
  | a, .d (.int k) => mulL h a k
  | _, _ => none
def isZ : D → Bool
  | .str _ => true
  | _ => false
def inT (h : Hs) : T → T → Option Bool
  | .d (.str x), b => match lstOf h b with
    | some xs => if xs.all isZ then some (inD (.str x) xs) else none
    | none => none
  | _, _ => none
def idxL (h : Hs) (a : T) (i : Int) : Option T := match seqOf h a with
  | some xs => match L2.atI xs i with
    | some v => some (.d v)
    | none => none
  | none => none
def idxK (h : Hs) (n : Nat) (k : Str) : Option T := match h[n]? with
  | some (.dct kvs) => match kGet kvs k with
    | some v => some (.d v)
    | none => none
  | _ => none
def idxZ (z : Str) (i : Int) : Option T := if z.length < big then (match L2.atI z.cps.toList i with
  | some c => some (.d (.str ⟨#[c]⟩))
  | none => none) else none
def idxT (h : Hs) : T → T → Option T
  | .d (.ref n), .d (.str k) => idxK h n k
  | .d (.str z), .d (.int i) => idxZ z i
  | a, .d (.int i) => idxL h a i
  | _, _ => none
def slL (h : Hs) (l u : Option Int) (a : T) : Option T := match lstOf h a with
  | some xs => some (.ol (cutD xs l u))
  | none => none
def slT (h : Hs) (l u : Option Int) : T → Option T
  | .d (.str z) => if z.length < big then some (.d (.str (L2.cutS z l u))) else none
  | a => slL h l u a

def eqF (a b : T) : Option Bool := match a.fitP, b.fitP with
  | some x, some y => some (x.eqv y)
  | _, _ => none
def eqT : T → T → Option Bool
  | .d (.bl a), .d (.bl b) => some (a == b)
  | a, b => eqF a b
def blT : Option Bool → Option T
  | some b => some (.d (.bl b))
  | none => none
def lenL (h : Hs) (a : T) : Option T := match seqOf h a with
  | some xs => some (.d (.int xs.length))
  | none => none
def lenT (h : Hs) : T → Option T
  | .d (.str z) => if z.length < big then some (.d (.int z.length)) else none
  | a => lenL h a
def sumT (h : Hs) (a : T) : Option T := match lstOf h a with
  | some xs => match toInts xs with
    | some l => some (.d (.int l.sum))
    | none => none
  | none => none
def tupT (h : Hs) (a : T) : Option T := match seqOf h a with
  | some xs => some (.d (.tup xs))
  | none => none
def sortT (h : Hs) (a : T) : Option T := match lstOf h a with
  | some xs => match toStrs xs with
    | some l => some (.ol ((sortZ l).map .str))
    | none => none
  | none => none
def joinT (h : Hs) (z : Str) (a : T) : Option T := match lstOf h a with
  | some xs => match toStrs xs with
    | some l => if (l.map (·.length)).sum + l.length * z.length < big then some (.d (.str (PySem.Txt.join z l))) else none
    | none => none
  | none => none

/-- the operations -/
def P.run (h : Hs) : P → List T → Option T
  | .add, [a, b] => addT h a b
  | .sub, ts => opI (fun _ _ => true) (fun i j => i - j) ts
  | .mul, [a, b] => mulT h a b
  | .fdiv, ts => opI (fun _ j => decide (0 < j) && decide (j < 1073741824)) (fun i j => i / j) ts
  | .mod, ts => opI (fun _ j => decide (0 < j)) (fun i j => i % j) ts
  | .pow, ts => opI (fun i j => decide (0 ≤ j) && decide (j ≤ 1000000) && decide (i.natAbs < 2 ^ 64)) (fun i j => i ^ j.toNat) ts
  | .neg, [.d (.int i)] => some (.d (.int (-i)))
  | .eq, [a, b] => blT (eqT a b)
  | .ne, [a, b] => blT ((eqT a b).map (!·))
  | .lt, ts => cmpI (fun i j => decide (i < j)) ts
  | .le, ts => cmpI (fun i j => decide (i ≤ j)) ts
  | .gt, ts => cmpI (fun i j => decide (j < i)) ts
  | .ge, ts => cmpI (fun i j => decide (j ≤ i)) ts
  | .isN, [.d x] => some (.d (.bl (match x with | .non => true | _ => false)))
  | .notN, [.d x] => some (.d (.bl (match x with | .non => false | _ => true)))
  | .in_, [a, b] => blT (inT h a b)
  | .notIn, [a, b] => blT ((inT h a b).map (!·))
  | .idx, [a, b] => idxT h a b
  | .sl false false, [a] => slT h none none a
  | .sl true false, [a, .d (.int i)] => slT h (some i) none a
  | .sl false true, [a, .d (.int j)] => slT h none (some j) a
  | .sl true true, [a, .d (.int i), .d (.int j)] => slT h (some i) (some j) a
  | .len, [a] => lenT h a
  | .int_, [.d (.int i)] => some (.d (.int i))
  | .abs, [.d (.int i)] => some (.d (.int (if i < 0 then -i else i)))
  | .sum, [a] => sumT h a
  | .tuple, [a] => tupT h a
  | .sorted, [a] => sortT h a
  | .join, [.d (.str z), a] => joinT h z a
  | _, _ => none

/-! ### slots -/
def setSl (s : S) (i : Nat) (t : Option T) : S := ⟨s.sl.set i t, s.hp⟩
def wipe (sl : List (Option T)) : List Nat → List (Option T)
  | [] => sl
  | i :: r => (wipe sl r).set i none
mutual
/-- a value is stored -/
def G.put : G → T → M Unit
  | .nm i, t => fun s => if i < s.sl.length then .ok () (setSl s i (some t)) else .bad
  | .tup gs, t => fun s => match t with
    | .d (.tup xs) => G.puts gs xs s
    | _ => .bad
def G.puts : List G → List D → M Unit
  | [], [] => ret ()
  | g :: gs, x :: xs => bind (G.put g (.d x)) fun _ => G.puts gs xs
  | _, _ => fail
end

/-- what is walked: tuples, lists that nobody changes meanwhile, texts, the script -/
def walkOf (h : Hs) : T → Option (List D)
  | .d (.str z) => some (signsOf z)
  | .d (.tup xs) => some xs
  | .d (.lst xs) => some xs
  | .ol xs => some xs
  | .d (.scr xs) => some xs
  | _ => none
/-- ow: a slot's own list, too (in a comprehension) -/
def walkAv (ow : Bool) (s : S) : Av → Option (List D)
  | .t t => walkOf s.hp t
  | .sl i => if ow then (match slot s i with
    | some (.ol xs) => some xs
    | _ => none) else none

/-- a comprehension's turns: f gives the new item or nothing; the slots begin anew at each turn -/
def turns (sl : List (Option T)) (f : D → M (Option D)) : List D → Hs → R (List D)
  | [], h => .ok [] ⟨sl, h⟩
  | x :: xs, h => match f x ⟨sl, h⟩ with
    | .ok o s => match turns sl f xs s.hp with
      | .ok r s' => .ok (match o with | some y => y :: r | none => r) s'
      | .ex c h' => .ex c h'
      | .bad => .bad
    | .ex c h' => .ex c h'
    | .bad => .bad
def upI (n : Int) : Nat → List D
  | 0 => []
  | k + 1 => .int n :: upI (n + 1) k
def rangeT : T → T → Option (List D)
  | .d (.int m), .d (.int n) => if -(big : Int) < m ∧ m < big ∧ -(big : Int) < n ∧ n < big then some (upI m (n - m).toNat) else none
  | _, _ => none
def needD : T → M D
  | .d x => ret x
  | .ol xs => ret (.lst xs)

/-- as an argument of an operation: a slot's own thing is not moved; m: the value otherwise -/
def avOf (e : E) (m : M T) : M Av := match e with
  | .var i => see fun s => match slot s i with
    | some (.d x) => some (.t (.d x))
    | some _ => some (.sl i)
    | none => none
  | _ => bind m fun t => ret (.t t)
/-- the truth of an argument -/
def truthAv (a : Av) : M Bool := see fun s => match a.get s with
  | some t => truth s.hp t
  | none => none

/-- an operation on what is at hand -/
def runP (p : P) (as : List Av) : M T := see fun s => match gets s as with
  | some ts => p.run s.hp ts
  | none => none

/-- a def that tries a call: what it hands back -/
structure Hd where
  exc : Nat
  onOk : Option D
  onEx : D
/-- how defs are called; the defs that try; the fuel of while loops -/
structure Ctx where
  call : Nat → List D → Hs → R T
  hd : Nat → Option Hd
  fuel : Nat

/-- what a lambda sees -/
def hide (sl : List (Option T)) : List (Option T) := sl.map fun
  | some (.d x) => some (.d x)
  | _ => none
mutual
/-- an expression's value; ro: within a comprehension or a lambda, where no slot changes -/
def E.ev (C : Ctx) (ro : Bool) : E → M T
  | .var i => see fun s => match slot s i with
    | some (.d x) => some (.d x)
    | _ => none
  | .mv i => if ro then fail else fun s => match slot s i with
    | some t => .ok t (setSl s i none)
    | none => .bad
  | .pop i => if ro then fail else fun s => match slot s i with
    | some (.ol xs) => match xs.getLast? with
      | some x => .ok (.d x) (setSl s i (some (.ol xs.dropLast)))
      | none => .bad
    | _ => .bad
  | .cst x => ret (.d x)
  | .tup es => bind (E.evs C ro es) fun ds => ret (.d (.tup ds))
  | .lst es => bind (E.evs C ro es) fun ds => ret (.ol ds)
  | .hlst es => bind (E.evs C ro es) fun ds => fun s => .ok (.d (.ref s.hp.length)) ⟨s.sl, s.hp ++ [.lst ds]⟩
  | .hdict ks vs => bind (E.evs C ro vs) fun ds => fun s => .ok (.d (.ref s.hp.length)) ⟨s.sl, s.hp ++ [.dct (ks.zip ds)]⟩
  | .prim p es => bind (E.avs C ro es) fun as => runP p as
  | .and_ a b => bind (bind (avOf a (E.ev C ro a)) truthAv) fun c => if c then E.ev C ro b else ret (.d (.bl false))
  | .or_ a b => bind (bind (avOf a (E.ev C ro a)) truthAv) fun c => if c then ret (.d (.bl true)) else E.ev C ro b
  | .not_ a => bind (bind (avOf a (E.ev C ro a)) truthAv) fun c => ret (.d (.bl (!c)))
  | .ite c a b => bind (bind (avOf c (E.ev C ro c)) truthAv) fun c => if c then E.ev C ro a else E.ev C ro b
  | .chain p q a b c => bind (avOf a (E.ev C ro a)) fun x => bind (avOf b (E.ev C ro b)) fun y => bind (runP p [x, y]) fun r => match r with
      | .d (.bl true) => bind (avOf c (E.ev C ro c)) fun z => runP q [y, z]
      | .d (.bl false) => ret (.d (.bl false))
      | _ => fail
  | .call f es => bind (E.evs C ro es) fun ds => fun s => match C.call f ds s.hp with
    | .ok t s' => .ok t ⟨s.sl, s'.hp⟩
    | .ex c h => .ex c h
    | .bad => .bad
  | .comp own sr g e => bind (Src.ev C ro true sr) fun xs => fun s => if big ≤ xs.length then .bad else match turns (wipe s.sl own) (fun x => bind (G.put g (.d x)) fun _ => bind (E.ev C true e) fun t => bind (needD t) fun d => ret (some d)) xs s.hp with
    | .ok ds s' => .ok (.ol ds) ⟨s.sl, s'.hp⟩
    | _ => .bad
  | .compIf own sr g c e => bind (Src.ev C ro true sr) fun xs => fun s => if big ≤ xs.length then .bad else match turns (wipe s.sl own) (fun x => bind (G.put g (.d x)) fun _ => bind (bind (avOf c (E.ev C true c)) truthAv) fun b => if b then bind (E.ev C true e) fun t => bind (needD t) fun d => ret (some d) else ret none) xs s.hp with
    | .ok ds s' => .ok (.ol ds) ⟨s.sl, s'.hp⟩
    | _ => .bad
  | .tried k e => fun s => match C.hd k with
    | none => .bad
    | some h => match E.ev C true e ⟨hide s.sl, s.hp⟩ with
      | .ok (.d x) s' => .ok (.d (match h.onOk with | some y => y | none => x)) ⟨s.sl, s'.hp⟩
      | .ex c hp => if c = h.exc then .ok (.d h.onEx) ⟨s.sl, hp⟩ else .bad
      | _ => .bad
def E.evs (C : Ctx) (ro : Bool) : List E → M (List D)
  | [] => ret []
  | e :: es => bind (E.ev C ro e) fun t => bind (needD t) fun d => bind (E.evs C ro es) fun ds => ret (d :: ds)
def E.avs (C : Ctx) (ro : Bool) : List E → M (List Av)
  | [] => ret []
  | e :: es => bind (avOf e (E.ev C ro e)) fun t => bind (E.avs C ro es) fun ts => ret (t :: ts)
/-- the items of what is walked -/
def Src.ev (C : Ctx) (ro ow : Bool) : Src → M (List D)
  | .of e => bind (avOf e (E.ev C ro e)) fun a => see fun s => walkAv ow s a
  | .range e => bind (E.ev C ro e) fun t => lift (rangeT (.d (.int 0)) t)
  | .range2 a b => bind (E.ev C ro a) fun t => bind (E.ev C ro b) fun u => lift (rangeT t u)
end

/-! ### statements -/
inductive O where
  | nx | rt (t : T) | bk | ct
def forM (f : D → M O) : List D → M O
  | [] => ret .nx
  | x :: xs => bind (f x) fun o => match o with
    | .nx => forM f xs
    | .ct => forM f xs
    | .bk => ret .nx
    | .rt t => ret (.rt t)
def whileM (c : M Bool) (b : M O) : Nat → M O
  | 0 => fail
  | n + 1 => bind c fun t => if t then bind b fun o => match o with
      | .nx => whileM c b n
      | .ct => whileM c b n
      | .bk => ret .nx
      | .rt t => ret (.rt t)
    else ret .nx
def test (C : Ctx) (e : E) : M Bool := bind (avOf e (E.ev C false e)) truthAv
def swapPut : List Nat → List D → M O
  | [], [] => ret .nx
  | i :: is, d :: ds => bind (G.put (.nm i) (.d d)) fun _ => swapPut is ds
  | _, _ => fail

/-- x op= y, of ints and texts -/
def augT : P → T → T → Option T
  | .add, .d (.int i), .d (.int j) => some (.d (.int (i + j)))
  | .sub, .d (.int i), .d (.int j) => some (.d (.int (i - j)))
  | .add, .d (.str x), .d (.str y) => if x.length + y.length < big then some (.d (.str (x ++ y))) else none
  | _, _, _ => none
def isOl (i : Nat) : M Unit := see fun s => match slot s i with
  | some (.ol _) => some ()
  | _ => none
def isLref (a : T) : M Unit := see fun s => match a with
  | .d (.ref n) => match s.hp[n]? with
    | some (.lst _) => some ()
    | _ => none
  | _ => none

mutual
def St.ex (C : Ctx) : St → M O
  | .asg g e => bind (E.ev C false e) fun t => bind (G.put g t) fun _ => ret .nx
  | .swap is es => bind (E.evs C false es) fun ds => swapPut is ds
  | .aug i p e => bind (E.ev C false (.var i)) fun x => bind (E.ev C false e) fun y => bind (lift (augT p x y)) fun t => bind (G.put (.nm i) t) fun _ => ret .nx
  | .append i e => bind (isOl i) fun _ => bind (E.ev C false e) fun t => bind (needD t) fun d => fun s => match slot s i with
    | some (.ol xs) => if xs.length < big then .ok .nx (setSl s i (some (.ol (xs ++ [d])))) else .bad
    | _ => .bad
  | .extend i e => bind (isOl i) fun _ => bind (E.ev C false e) fun t => fun s => match slot s i, lstOf s.hp t with
    | some (.ol xs), some ys => if xs.length + ys.length < big then .ok .nx (setSl s i (some (.ol (xs ++ ys)))) else .bad
    | _, _ => .bad
  | .hput o k e => bind (E.ev C false e) fun t => bind (needD t) fun d => bind (E.ev C false o) fun a => bind (E.ev C false k) fun b => fun s => match a, b with
    | .d (.ref n), .d (.str z) => match s.hp[n]? with
      | some (.dct kvs) => if kvs.length < 1000 then .ok .nx ⟨s.sl, s.hp.set n (.dct (kPut kvs z d))⟩ else .bad
      | _ => .bad
    | _, _ => .bad
  | .happend o e => bind (E.ev C false o) fun a => bind (isLref a) fun _ => bind (E.ev C false e) fun t => bind (needD t) fun d => fun s => match a with
    | .d (.ref n) => match s.hp[n]? with
      | some (.lst xs) => if xs.length < big then .ok .nx ⟨s.sl, s.hp.set n (.lst (xs ++ [d]))⟩ else .bad
      | _ => .bad
    | _ => .bad
  | .expr e => bind (E.ev C false e) fun _ => ret .nx
  | .if_ c a b => bind (test C c) fun t => if t then Sts.ex C a else Sts.ex C b
  | .while_ c b => whileM (test C c) (Sts.ex C b) C.fuel
  | .for_ g sr b => bind (Src.ev C false false sr) fun xs => forM (fun x => bind (G.put g (.d x)) fun _ => Sts.ex C b) xs
  | .ret e => bind (E.ev C false e) fun t => ret (.rt t)
  | .retN => ret (.rt (.d .non))
  | .cont => ret .ct
  | .brk => ret .bk
  | .pass => ret .nx
  | .raise c => fun s => .ex c s.hp
  | .freeze i => fun s => match slot s i with
    | some (.ol xs) => .ok .nx (setSl s i (some (.d (.lst xs))))
    | _ => .bad
def Sts.ex (C : Ctx) : List St → M O
  | [] => ret .nx
  | a :: r => bind (St.ex C a) fun o => match o with
    | .nx => Sts.ex C r
    | o => ret o
end

/-! ### defs -/
structure Def where
  np : Nat
  ns : Nat
  body : List St
def Def.start (d : Def) (args : List D) : List (Option T) := args.map (fun x => some (.d x)) ++ List.replicate (d.ns - d.np) none
def Def.run (C : Ctx) (d : Def) (args : List D) (h : Hs) : R T :=
  if args.length = d.np then match Sts.ex C d.body ⟨d.start args, h⟩ with
    | .ok .nx s => .ok (.d .non) ⟨[], s.hp⟩
    | .ok (.rt t) s => .ok t ⟨[], s.hp⟩
    | .ok _ _ => .bad
    | .ex c h => .ex c h
    | .bad => .bad
  else .bad
/-- a program: its defs, those that try, the fuel -/
structure Prog where
  defs : List Def
  hd : Nat → Option Hd
  fuel : Nat
def Prog.call (p : Prog) : Nat → Nat → List D → Hs → R T
  | 0, _, _, _ => .bad
  | n + 1, f, args, h => match p.defs[f]? with
    | some d => d.run ⟨p.call n, p.hd, p.fuel⟩ args h
    | none => .bad
def Prog.ctx (p : Prog) (n : Nat) : Ctx := ⟨p.call n, p.hd, p.fuel⟩
end
end PL
end
section
set_option linter.all false
set_option maxRecDepth 100000
/-! PL1: how plain data lies in the layer's heap; what stays. -/
namespace PL
open PySem PySem.Spec PyProof.Rows L2

/-- the world: what never changes (tuples, frozen lists), the addresses of the things that change -/
structure Wd where
  I : Hp
  ι : List Addr

mutual
inductive RV (w : Wd) : V → D → Prop where
  | non : RV w .non .non
  | bl (b : Bool) : RV w (.bl b) (.bl b)
  | int (i : Int) : RV w (.int i) (.int i)
  | str (x : Str) : PyData.strOk x = true → RV w (.str x) (.str x)
  | tup {a : Addr} {vs : List V} {ds : List D} : w.I a = some (.tup vs) → RVs w vs ds → RV w (.ref a) (.tup ds)
  | lst {a : Addr} {vs : List V} {ds : List D} : w.I a = some (.lst vs) → RVs w vs ds → RV w (.ref a) (.lst ds)
  | scr {a : Addr} {vs : List V} {ds : List D} : Rd w.I a (.lst vs) → RVs w vs ds → RV w (.ref a) (.scr ds)
  | ref {a : Addr} {n : Nat} : w.ι[n]? = some a → RV w (.ref a) (.ref n)
inductive RVs (w : Wd) : List V → List D → Prop where
  | nil : RVs w [] []
  | cons {v : V} {vs : List V} {d : D} {ds : List D} : RV w v d → RVs w vs ds → RVs w (v :: vs) (d :: ds)
end

/-- a later world -/
structure Le (w w' : Wd) : Prop where
  same : Same w.I w'.I
  pre : ∃ more, w'.ι = w.ι ++ more
theorem Le.refl (w : Wd) : Le w w := ⟨Same.refl _, [], by simp⟩
theorem Le.trans {w w1 w2 : Wd} (a : Le w w1) (b : Le w1 w2) : Le w w2 := by
  obtain ⟨m, e⟩ := a.pre
  obtain ⟨m', e'⟩ := b.pre
  exact ⟨a.same.trans b.same, m ++ m', by rw [e', e, List.append_assoc]⟩
theorem Le.ix {w w' : Wd} (l : Le w w') {n : Nat} {a : Addr} (h : w.ι[n]? = some a) : w'.ι[n]? = some a := by
  obtain ⟨m, e⟩ := l.pre
  rw [e, List.getElem?_append_left (List.getElem?_eq_some_iff.mp h).1]
  exact h
theorem Rd.same {H H' : Hp} {a : Addr} {u : HO} (s : Same H H') (h : Rd H a u) : Rd H' a u := by
  rcases h with h | ⟨o, h⟩
  · exact .inl (s _ _ h)
  · exact .inr ⟨o, s _ _ h⟩
mutual
theorem RV.mono {w w' : Wd} (l : Le w w') : ∀ {d : D} {v : V}, RV w v d → RV w' v d
  | .non, _, .non => .non
  | .bl _, _, .bl b => .bl b
  | .int _, _, .int i => .int i
  | .str _, _, .str x h => .str x h
  | .tup _, _, .tup h hs => .tup (l.same _ _ h) (RVs.mono l hs)
  | .lst _, _, .lst h hs => .lst (l.same _ _ h) (RVs.mono l hs)
  | .scr _, _, .scr h hs => .scr (Rd.same l.same h) (RVs.mono l hs)
  | .ref _, _, .ref h => .ref (l.ix h)
theorem RVs.mono {w w' : Wd} (l : Le w w') : ∀ {ds : List D} {vs : List V}, RVs w vs ds → RVs w' vs ds
  | [], _, .nil => .nil
  | _ :: _, _, .cons h hs => .cons (RV.mono l h) (RVs.mono l hs)
end
section
variable {w : Wd}
theorem RVs.length : ∀ {ds : List D} {vs : List V}, RVs w vs ds → vs.length = ds.length
  | [], _, .nil => rfl
  | _ :: _, _, .cons _ hs => by rw [List.length_cons, List.length_cons, RVs.length hs]
theorem RVs.append : ∀ {ds es : List D} {vs us : List V}, RVs w vs ds → RVs w us es → RVs w (vs ++ us) (ds ++ es)
  | [], _, _, _, .nil, h => h
  | _ :: _, _, _, _, .cons h hs, k => .cons h (RVs.append hs k)
theorem RVs.snoc {ds : List D} {vs : List V} {v : V} {d : D} (h : RVs w vs ds) (k : RV w v d) : RVs w (vs ++ [v]) (ds ++ [d]) := h.append (.cons k .nil)
theorem RVs.get : ∀ {ds : List D} {vs : List V} {i : Nat} {d : D}, RVs w vs ds → ds[i]? = some d → ∃ v, vs[i]? = some v ∧ RV w v d
  | _ :: _, _, 0, _, .cons h _, e => by
    simp at e
    subst e
    exact ⟨_, rfl, h⟩
  | _ :: _, _, i + 1, _, .cons _ hs, e => by
    obtain ⟨v, h1, h2⟩ := RVs.get (i := i) hs (by simpa using e)
    exact ⟨v, by simpa using h1, h2⟩
theorem RVs.get' : ∀ {ds : List D} {vs : List V} {i : Nat} {v : V}, RVs w vs ds → vs[i]? = some v → ∃ d, ds[i]? = some d ∧ RV w v d
  | _, _, 0, _, .cons h _, e => by
    simp at e
    subst e
    exact ⟨_, rfl, h⟩
  | _, _, i + 1, _, .cons _ hs, e => by
    obtain ⟨v, h1, h2⟩ := RVs.get' (i := i) hs (by simpa using e)
    exact ⟨v, by simpa using h1, h2⟩
theorem RVs.drop : ∀ {ds : List D} {vs : List V} (n : Nat), RVs w vs ds → RVs w (vs.drop n) (ds.drop n)
  | _, _, 0, h => h
  | _, _, _ + 1, .nil => .nil
  | _, _, n + 1, .cons _ hs => RVs.drop n hs
theorem RVs.take : ∀ {ds : List D} {vs : List V} (n : Nat), RVs w vs ds → RVs w (vs.take n) (ds.take n)
  | _, _, 0, _ => .nil
  | _, _, _ + 1, .nil => .nil
  | _, _, n + 1, .cons h hs => .cons h (RVs.take n hs)
theorem RVs.dropLast : ∀ {ds : List D} {vs : List V}, RVs w vs ds → RVs w vs.dropLast ds.dropLast
  | [], _, .nil => .nil
  | [_], _, .cons _ .nil => .nil
  | _ :: _ :: _, _, .cons h (.cons k ks) => .cons h (RVs.dropLast (.cons k ks))
theorem RVs.rep {ds : List D} {vs : List V} (h : RVs w vs ds) : ∀ n : Nat, RVs w (List.replicate n vs).flatten (repD ds n)
  | 0 => .nil
  | n + 1 => by
    rw [List.replicate_succ, List.flatten_cons]
    exact h.append (RVs.rep h n)
theorem RVs.ints : ∀ {ds : List D} {vs : List V} {ns : List Int}, RVs w vs ds → toInts ds = some ns → vs = ns.map V.int
  | [], _, _, .nil, e => by
    cases e
    rfl
  | .int i :: r, _, ns, .cons h hs, e => by
    unfold toInts at e
    cases q : toInts r with
    | none => rw [q] at e; cases e
    | some l =>
      rw [q] at e
      cases e
      cases h
      rw [RVs.ints hs q]
      rfl
  | .non :: _, _, _, .cons _ _, e => by cases e
  | .bl _ :: _, _, _, .cons _ _, e => by cases e
  | .str _ :: _, _, _, .cons _ _, e => by cases e
  | .tup _ :: _, _, _, .cons _ _, e => by cases e
  | .lst _ :: _, _, _, .cons _ _, e => by cases e
  | .scr _ :: _, _, _, .cons _ _, e => by cases e
  | .ref _ :: _, _, _, .cons _ _, e => by cases e
theorem RVs.strs : ∀ {ds : List D} {vs : List V} {ns : List Str}, RVs w vs ds → toStrs ds = some ns → vs = ns.map V.str ∧ ∀ x ∈ ns, PyData.strOk x = true
  | [], _, _, .nil, e => by
    cases e
    exact ⟨rfl, fun _ h => nomatch h⟩
  | .str i :: r, _, ns, .cons h hs, e => by
    unfold toStrs at e
    cases q : toStrs r with
    | none => rw [q] at e; cases e
    | some l =>
      rw [q] at e
      cases e
      cases h with
      | str _ hx =>
        obtain ⟨e1, e2⟩ := RVs.strs hs q
        rw [e1]
        refine ⟨rfl, fun x hm => ?_⟩
        rcases List.mem_cons.mp hm with z | z
        · subst z
          exact hx
        · exact e2 x z
  | .non :: _, _, _, .cons _ _, e => by cases e
  | .bl _ :: _, _, _, .cons _ _, e => by cases e
  | .int _ :: _, _, _, .cons _ _, e => by cases e
  | .tup _ :: _, _, _, .cons _ _, e => by cases e
  | .lst _ :: _, _, _, .cons _ _, e => by cases e
  | .scr _ :: _, _, _, .cons _ _, e => by cases e
  | .ref _ :: _, _, _, .cons _ _, e => by cases e
theorem RVs.of_strs : ∀ {ns : List Str}, (∀ x ∈ ns, PyData.strOk x = true) → RVs w (ns.map V.str) (ns.map D.str)
  | [], _ => .nil
  | x :: r, h => .cons (.str x (h x List.mem_cons_self)) (RVs.of_strs fun y hy => h y (List.mem_cons_of_mem _ hy))
end

/-! ### data as the library's data -/
mutual
def D.py : D → PyData
  | .non => .none
  | .bl b => .bool b
  | .int i => .int i
  | .str s => .str s
  | .tup xs => .tuple (pys xs)
  | .lst xs => .list (pys xs)
  | .scr _ => .none
  | .ref _ => .none
def pys : List D → List PyData
  | [] => []
  | x :: xs => x.py :: pys xs
end
mutual
theorem D.eqv_py : ∀ (x y : D), x.pure = true → y.pure = true → PyData.eqv x.py y.py = x.eqv y
  | .non, .non, _, _ | .non, .int _, _, _ | .non, .str _, _, _ | .non, .tup _, _, _ | .non, .lst _, _, _ => rfl
  | .int _, .non, _, _ | .int _, .int _, _, _ | .int _, .str _, _, _ | .int _, .tup _, _, _ | .int _, .lst _, _, _ => rfl
  | .str _, .non, _, _ | .str _, .int _, _, _ | .str _, .str _, _, _ | .str _, .tup _, _, _ | .str _, .lst _, _, _ => rfl
  | .tup _, .non, _, _ | .tup _, .int _, _, _ | .tup _, .str _, _, _ | .tup _, .lst _, _, _ => rfl
  | .lst _, .non, _, _ | .lst _, .int _, _, _ | .lst _, .str _, _, _ | .lst _, .tup _, _, _ => rfl
  | .tup xs, .tup ys, h, k => by
    show PyData.eqvAll (pys xs) (pys ys) = eqvs xs ys
    exact eqvs_py xs ys (by simpa [D.pure] using h) (by simpa [D.pure] using k)
  | .lst xs, .lst ys, h, k => by
    show PyData.eqvAll (pys xs) (pys ys) = eqvs xs ys
    exact eqvs_py xs ys (by simpa [D.pure] using h) (by simpa [D.pure] using k)
  | .bl _, _, h, _ => by cases h
  | .ref _, _, h, _ => by cases h
  | .scr _, _, h, _ => by cases h
  | .non, .scr _, _, k | .int _, .scr _, _, k | .str _, .scr _, _, k | .tup _, .scr _, _, k | .lst _, .scr _, _, k => by cases k
  | .non, .bl _, _, k | .int _, .bl _, _, k | .str _, .bl _, _, k | .tup _, .bl _, _, k | .lst _, .bl _, _, k => by cases k
  | .non, .ref _, _, k | .int _, .ref _, _, k | .str _, .ref _, _, k | .tup _, .ref _, _, k | .lst _, .ref _, _, k => by cases k
theorem eqvs_py : ∀ (xs ys : List D), pures xs = true → pures ys = true → PyData.eqvAll (pys xs) (pys ys) = eqvs xs ys
  | [], [], _, _ => rfl
  | [], _ :: _, _, _ => rfl
  | _ :: _, [], _, _ => rfl
  | x :: xs, y :: ys, h, k => by
    simp only [pures, Bool.and_eq_true] at h k
    show (PyData.eqv x.py y.py && PyData.eqvAll (pys xs) (pys ys)) = (x.eqv y && eqvs xs ys)
    rw [D.eqv_py x y h.1 k.1, eqvs_py xs ys h.2 k.2]
end
mutual
theorem D.dep_py : ∀ x : D, x.py.depth = x.dep
  | .non | .bl _ | .int _ | .str _ | .ref _ | .scr _ => rfl
  | .tup xs => by
    show PyData.depthAll (pys xs) + 1 = deps xs + 1
    rw [deps_py xs]
  | .lst xs => by
    show PyData.depthAll (pys xs) + 1 = deps xs + 1
    rw [deps_py xs]
theorem deps_py : ∀ xs : List D, PyData.depthAll (pys xs) = deps xs
  | [] => rfl
  | x :: xs => by
    show max x.py.depth (PyData.depthAll (pys xs)) = max x.dep (deps xs)
    rw [D.dep_py x, deps_py xs]
end
mutual
theorem RV.lay {w : Wd} : ∀ {d : D} {v : V}, RV w v d → d.py.canLay0 = true
  | .non, _, .non => rfl
  | .bl _, _, .bl b => rfl
  | .int _, _, .int i => rfl
  | .str _, _, .str x h => h
  | .tup _, _, .tup h hs => RVs.lay hs
  | .lst _, _, .lst h hs => RVs.lay hs
  | .scr _, _, .scr h hs => rfl
  | .ref _, _, .ref h => rfl
theorem RVs.lay {w : Wd} : ∀ {ds : List D} {vs : List V}, RVs w vs ds → PyData.canLayAll0 (pys ds) = true
  | [], _, .nil => rfl
  | _ :: _, _, .cons h hs => by
    show (PyData.canLay0 _ && PyData.canLayAll0 _) = true
    rw [RV.lay h, RVs.lay hs]
    rfl
end
theorem RV.shaped {w : Wd} {d : D} {v : V} (r : RV w v d) (h : d.fit = true) : SeqAt.shaped d.py = true := by
  unfold D.fit at h
  simp only [Bool.and_eq_true, decide_eq_true_eq] at h
  unfold SeqAt.shaped
  rw [r.lay, D.dep_py]
  simp only [Bool.true_and, decide_eq_true_eq]
  omega
mutual
theorem RV.dp {w : Wd} {K : PySem.W.Frag} {H : Hp} (s : Same w.I H) : ∀ {d : D} {v : V}, d.pure = true → RV w v d → Dp K H v d.py
  | .non, _, _, .non => .non
  | .bl _, _, _, .bl b => .bl b
  | .int _, _, _, .int i => .int i
  | .str _, _, _, .str x h => .str x
  | .tup _, _, p, .tup h hs => .tup (.inl (.inl (s _ _ h))) (RVs.dp s p hs)
  | .lst _, _, p, .lst h hs => .lst (.inl (.inl (s _ _ h))) (RVs.dp s p hs)
  | .ref _, _, p, .ref h => nomatch p
  | .scr _, _, p, .scr h hs => nomatch p
theorem RVs.dp {w : Wd} {K : PySem.W.Frag} {H : Hp} (s : Same w.I H) : ∀ {ds : List D} {vs : List V}, pures ds = true → RVs w vs ds → DpAll K H vs (pys ds)
  | [], _, _, .nil => .nil
  | _ :: _, _, p, .cons h hs => by
    simp only [pures, Bool.and_eq_true] at p
    exact .cons (RV.dp s p.1 h) (RVs.dp s p.2 hs)
end

/-! ### slots, the heap of things that change -/
/-- a value at hand -/
def RT (w : Wd) (H : Hp) (v : V) : T → Prop
  | .d x => RV w v x
  | .ol xs => ∃ a vs, v = .ref a ∧ H a = some (.lst vs) ∧ RVs w vs xs ∧ w.I a = none ∧ a ∉ w.ι
def isOwn : T → Bool
  | .d _ => false
  | .ol _ => true
/-- a thing that changes, at a -/
def RO (w : Wd) (H : Hp) (a : Addr) : AO → Prop
  | .dct kvs => ∃ ks : List (Key × V), H a = some (.dK ks) ∧ Paired (fun (p : Key × V) (q : Str × D) => p.1 = .inr q.1 ∧ RV w p.2 q.2) ks kvs
  | .lst xs => ∃ vs, H a = some (.lst vs) ∧ RVs w vs xs
/-- a is the own thing of a slot -/
def Own (sl : List (Option T)) (σ : L2.St) (a : Addr) : Prop := ∃ (i : Nat) (t : T), sl[i]? = some (some t) ∧ isOwn t = true ∧ σ[i]? = some (some (V.ref a))

structure RH (w : Wd) (H : Hp) (hp : Hs) : Prop where
  len : w.ι.length = hp.length
  nd : w.ι.Nodup
  at_ : ∀ (n : Nat) (o : AO), hp[n]? = some o → ∃ a, w.ι[n]? = some a ∧ w.I a = none ∧ RO w H a o
structure Rel (T0 : List (Addr × Str)) (w : Wd) (s : S) (σ : L2.St) (H : Hp) : Prop where
  same : Same w.I H
  len : s.sl.length = σ.length
  sl : ∀ (i : Nat) (t : T), s.sl[i]? = some (some t) → ∃ v, σ[i]? = some (some v) ∧ RT w H v t
  dis : ∀ (i j : Nat) (a : Addr) (t u : T), s.sl[i]? = some (some t) → s.sl[j]? = some (some u) → isOwn t = true → isOwn u = true → σ[i]? = some (some (V.ref a)) → σ[j]? = some (some (V.ref a)) → i = j
  hp : RH w H s.hp
  tabs : LamX.Tabs T0 H
  nt : ∀ a ps, w.I a ≠ some (.tbl ps)

/-- what nobody here holds stays as it is -/
def Fr (w : Wd) (sl : List (Option T)) (σ : L2.St) (H : Hp) (w' : Wd) (H' : Hp) : Prop :=
  ∀ (a : Addr) (o : HO), H a = some o → (∀ ps, o ≠ .tbl ps) → w.I a = none → a ∉ w.ι → ¬ Own sl σ a → H' a = some o ∧ w'.I a = none ∧ a ∉ w'.ι
/-- nothing stands there, but a code table maybe -/
def Gone (H : Hp) (a : Addr) : Prop := ∀ o, H a = some o → ∃ ps, o = .tbl ps
theorem gone_none {H : Hp} {a : Addr} (h : H a = none) : Gone H a := fun o e => by
  rw [h] at e
  cases e
/-- what is there stays there -/
def Dom (H H' : Hp) : Prop := ∀ a, Gone H' a → Gone H a
/-- a was made in between, or was a slot's own thing -/
def New (sl : List (Option T)) (σ : L2.St) (H : Hp) (a : Addr) : Prop := Own sl σ a ∨ Gone H a

/-- from (w, s, σ, H) on to (w', s', σ', H') -/
structure At (T0 : List (Addr × Str)) (w : Wd) (s : S) (σ : L2.St) (H : Hp) (w' : Wd) (s' : S) (σ' : L2.St) (H' : Hp) : Prop where
  le : Le w w'
  rel : Rel T0 w' s' σ' H'
  fr : Fr w s.sl σ H w' H'
  dom : Dom H H'
  own : ∀ a, Own s'.sl σ' a → New s.sl σ H a
/-- v is t, and nobody else holds it -/
structure Val (w : Wd) (sl : List (Option T)) (σ : L2.St) (H : Hp) (v : V) (t : T) : Prop where
  rt : RT w H v t
  fresh : isOwn t = true → ∀ a, v = .ref a → ¬ Own sl σ a
def NewT (sl : List (Option T)) (σ : L2.St) (H : Hp) (v : V) (t : T) : Prop := isOwn t = true → ∀ a, v = .ref a → New sl σ H a
section
variable {T0 : List (Addr × Str)} {w w1 w2 : Wd} {s s1 s2 : S} {σ σ1 σ2 : L2.St} {H H1 H2 : Hp} {v : V} {t : T}
theorem Dom.same (h : Same H H1) : Dom H H1 := fun a e o q => e o (h _ _ q)
theorem Fr.refl : Fr w s.sl σ H w H := fun a o h _ hi hm _ => ⟨h, hi, hm⟩
theorem At.refl (r : Rel T0 w s σ H) : At T0 w s σ H w s σ H := ⟨Le.refl _, r, Fr.refl, fun _ z => z, fun _ z => .inl z⟩
theorem At.new (a : At T0 w s σ H w1 s1 σ1 H1) {x : Addr} (n : New s1.sl σ1 H1 x) : New s.sl σ H x := by
  rcases n with n | n
  · exact a.own x n
  · exact .inr (a.dom x n)
theorem At.trans (a : At T0 w s σ H w1 s1 σ1 H1) (b : At T0 w1 s1 σ1 H1 w2 s2 σ2 H2) : At T0 w s σ H w2 s2 σ2 H2 := by
  refine ⟨a.le.trans b.le, b.rel, fun x o h hn hi hm ho => ?_, fun x z => a.dom x (b.dom x z), fun x z => a.new (b.own x z)⟩
  obtain ⟨h1, i1, m1⟩ := a.fr x o h hn hi hm ho
  refine b.fr x o h1 hn i1 m1 fun z => ?_
  rcases a.own x z with q | q
  · exact ho q
  · obtain ⟨ps, e⟩ := q _ h
    exact hn ps e
theorem At.newT (a : At T0 w s σ H w1 s1 σ1 H1) (n : NewT s1.sl σ1 H1 v t) : NewT s.sl σ H v t := fun e x ex => a.new (n e x ex)
theorem Val.keep (q : Val w s.sl σ H v t) (b : At T0 w s σ H w1 s1 σ1 H1) : Val w1 s1.sl σ1 H1 v t := by
  cases t with
  | d x => exact ⟨RV.mono b.le q.rt, fun z => nomatch z⟩
  | ol xs =>
    obtain ⟨a, vs, e, h, r, hi, hm⟩ := q.rt
    have no : ¬ Own s.sl σ a := q.fresh rfl a e
    obtain ⟨h1, i1, m1⟩ := b.fr a _ h (fun _ z => nomatch z) hi hm no
    refine ⟨⟨a, vs, e, h1, RVs.mono b.le r, i1, m1⟩, fun _ a' e' z => ?_⟩
    have : a' = a := by
      rw [e] at e'
      cases e'
      rfl
    subst this
    rcases b.own _ z with q | q
    · exact no q
    · obtain ⟨ps, e⟩ := q _ h
      cases e
theorem Val.d {x : D} (r : RV w v x) : Val w s.sl σ H v (.d x) := ⟨r, fun z => nomatch z⟩
theorem NewT.d {x : D} {sl : List (Option T)} : NewT sl σ H v (.d x) := fun z => nomatch z

/-- more is tracked: nothing of ours is touched -/
theorem RT.ext (h : Same H H1) (r : RT w H v t) : RT w H1 v t := by
  cases t with
  | d x => exact r
  | ol xs =>
    obtain ⟨a, vs, e, q, r⟩ := r
    exact ⟨a, vs, e, h _ _ q, r⟩
theorem RO.ext {a : Addr} {o : AO} (h : Same H H1) (r : RO w H a o) : RO w H1 a o := by
  cases o with
  | dct kvs =>
    obtain ⟨ks, e, r⟩ := r
    exact ⟨ks, h _ _ e, r⟩
  | lst xs =>
    obtain ⟨ks, e, r⟩ := r
    exact ⟨ks, h _ _ e, r⟩
theorem RO.mono {a : Addr} {o : AO} (l : Le w w1) (r : RO w H a o) : RO w1 H a o := by
  cases o with
  | dct kvs =>
    obtain ⟨ks, e, r⟩ := r
    exact ⟨ks, e, Paired.mapP r fun p q z => ⟨z.1, RV.mono l z.2⟩⟩
  | lst xs =>
    obtain ⟨ks, e, r⟩ := r
    exact ⟨ks, e, RVs.mono l r⟩
theorem Rel.ext (r : Rel T0 w s σ H) (h : Same H H1) : Rel T0 w s σ H1 := by
  refine ⟨r.same.trans h, r.len, fun i t e => ?_, r.dis, ⟨r.hp.len, r.hp.nd, fun n o e => ?_⟩, r.tabs.ext h, r.nt⟩
  · obtain ⟨v, e1, q⟩ := r.sl i t e
    exact ⟨v, e1, q.ext h⟩
  · obtain ⟨a, e1, e2, q⟩ := r.hp.at_ n o e
    exact ⟨a, e1, e2, q.ext h⟩
theorem At.ext (a : At T0 w s σ H w1 s1 σ1 H1) (h : Same H1 H2) : At T0 w s σ H w1 s1 σ1 H2 :=
  a.trans ⟨Le.refl _, a.rel.ext h, fun x o e _ hi hm _ => ⟨h _ _ e, hi, hm⟩, Dom.same h, fun _ z => .inl z⟩
theorem same_new {a : Addr} {o : HO} (h : H a = none) : Same H (upd H a o) := fun b x e => by
  rw [upd_ne (ne_of_none e h)]
  exact e
theorem Rel.ne_ι (r : Rel T0 w s σ H) {a : Addr} (h : H a = none) : a ∉ w.ι := fun m => by
  obtain ⟨n, hn, e⟩ := List.getElem_of_mem m
  have hn' : n < s.hp.length := by
    rw [← r.hp.len]
    exact hn
  obtain ⟨b, e1, _, q⟩ := r.hp.at_ n _ (List.getElem?_eq_getElem hn')
  rw [List.getElem?_eq_getElem hn, e] at e1
  cases e1
  cases hq : s.hp[n] with
  | dct kvs =>
    rw [hq] at q
    obtain ⟨_, e2, _⟩ := q
    rw [h] at e2
    cases e2
  | lst kvs =>
    rw [hq] at q
    obtain ⟨_, e2, _⟩ := q
    rw [h] at e2
    cases e2
theorem Rel.ne_own (r : Rel T0 w s σ H) {a : Addr} (h : Gone H a) : ¬ Own s.sl σ a := fun ⟨i, t, e1, e2, e3⟩ => by
  obtain ⟨v, e4, q⟩ := r.sl i t e1
  rw [e3] at e4
  cases e4
  cases t with
  | d x => cases e2
  | ol xs =>
    obtain ⟨b, vs, e5, e6, _⟩ := q
    cases e5
    obtain ⟨ps, e⟩ := h _ e6
    cases e
theorem Rel.ne_I (r : Rel T0 w s σ H) {a : Addr} (h : H a = none) : w.I a = none := r.same.free h

/-- a thing that nobody holds is frozen -/
theorem Rel.grow (r : Rel T0 w s σ H) {a : Addr} {o : HO} (h : H a = some o) (hi : w.I a = none) (hm : a ∉ w.ι) (ho : ¬ Own s.sl σ a) (hnt : ∀ ps, o ≠ .tbl ps) : Rel T0 ⟨upd w.I a o, w.ι⟩ s σ H := by
  have l : Le w ⟨upd w.I a o, w.ι⟩ := ⟨same_new hi, [], by simp⟩
  refine ⟨fun b x e => ?_, r.len, fun i t e => ?_, r.dis, ⟨r.hp.len, r.hp.nd, fun n x e => ?_⟩, r.tabs, fun b ps e => ?_⟩
  rotate_right
  · have e : upd w.I a o b = some (.tbl ps) := e
    by_cases hb : b = a
    · subst hb
      rw [upd_same] at e
      exact hnt ps (Option.some.inj e)
    · rw [upd_ne hb] at e
      exact r.nt b ps e
  · have e : upd w.I a o b = some x := e
    by_cases hb : b = a
    · subst hb
      rw [upd_same] at e
      cases e
      exact h
    · rw [upd_ne hb] at e
      exact r.same _ _ e
  · obtain ⟨v, e1, q⟩ := r.sl i t e
    refine ⟨v, e1, ?_⟩
    cases t with
    | d x => exact RV.mono l q
    | ol xs =>
      obtain ⟨b, vs, e2, e3, e4, e5, e6⟩ := q
      refine ⟨b, vs, e2, e3, RVs.mono l e4, ?_, e6⟩
      have hb : b ≠ a := fun z => by
        subst z
        exact ho ⟨i, _, e, rfl, by rw [e1, e2]⟩
      show upd w.I a o b = none
      rw [upd_ne hb]
      exact e5
  · obtain ⟨b, e1, e2, q⟩ := r.hp.at_ n x e
    refine ⟨b, e1, ?_, q.mono l⟩
    have hb : b ≠ a := fun z => by
      subst z
      exact hm (List.mem_of_getElem? e1)
    show upd w.I a o b = none
    rw [upd_ne hb]
    exact e2
/-- .. seen from the start: what is frozen was not there at the start, or was a slot's own -/
theorem At.grow (b : At T0 w s σ H w1 s1 σ1 H1) {a : Addr} {o : HO} (h : H1 a = some o) (hi : w1.I a = none) (hm : a ∉ w1.ι) (ho : ¬ Own s1.sl σ1 a) (hn : New s.sl σ H a) (hnt : ∀ ps, o ≠ .tbl ps) :
    At T0 w s σ H ⟨upd w1.I a o, w1.ι⟩ s1 σ1 H1 := by
  refine ⟨b.le.trans ⟨same_new hi, [], by simp⟩, b.rel.grow h hi hm ho hnt, fun x u e n i m no => ?_, b.dom, b.own⟩
  obtain ⟨e1, e2, e3⟩ := b.fr x u e n i m no
  refine ⟨e1, ?_, e3⟩
  have hx : x ≠ a := fun z => by
    subst z
    rcases hn with q | q
    · exact no q
    · obtain ⟨ps, z⟩ := q _ e
      exact n ps z
  show upd w1.I a o x = none
  rw [upd_ne hx]
  exact e2
/-- an own list becomes a frozen one -/
theorem At.freeze (b : At T0 w s σ H w1 s1 σ1 H1) (q : Val w1 s1.sl σ1 H1 v t) (n : NewT s.sl σ H v t) : ∃ w2, At T0 w s σ H w2 s1 σ1 H1 ∧ Le w1 w2 ∧ RV w2 v t.toD ∧ w2.ι = w1.ι ∧
    (∀ a, w2.I a ≠ none → w1.I a = none → isOwn t = true ∧ v = .ref a) := by
  cases t with
  | d x => exact ⟨w1, b, Le.refl _, q.rt, rfl, fun a h1 h2 => absurd h2 h1⟩
  | ol xs =>
    obtain ⟨a, vs, e, h, r, hi, hm⟩ := q.rt
    refine ⟨_, b.grow h hi hm (q.fresh rfl a e) (n rfl a e) (fun _ z => nomatch z), ⟨same_new hi, [], by simp⟩, ?_, rfl, fun c h1 h2 => ⟨rfl, ?_⟩⟩
    · rw [e]
      exact .lst upd_same (RVs.mono ⟨same_new hi, [], by simp⟩ r)
    · by_cases hc : c = a
      · rw [hc]
        exact e
      · have : upd w1.I a (.lst vs) c ≠ none := h1
        rw [upd_ne hc] at this
        exact absurd h2 this
/-- a new tuple -/
theorem At.tup (b : At T0 w s σ H w1 s1 σ1 H1) {a : Addr} (h : H1 a = none) {vs : List V} {ds : List D} (r : RVs w1 vs ds) :
    ∃ w2, At T0 w s σ H w2 s1 σ1 (upd H1 a (.tup vs)) ∧ Le w1 w2 ∧ RV w2 (.ref a) (.tup ds) := by
  have hi := b.rel.ne_I h
  have hm := b.rel.ne_ι h
  have ho := b.rel.ne_own (gone_none h)
  have l : Le w1 ⟨upd w1.I a (.tup vs), w1.ι⟩ := ⟨same_new hi, [], by simp⟩
  exact ⟨_, (b.ext (same_new (o := .tup vs) h)).grow upd_same hi hm ho (.inr (b.dom a (gone_none h))) (fun _ z => nomatch z), l, .tup upd_same (RVs.mono l r)⟩
/-- a new list -/
theorem At.lst (b : At T0 w s σ H w1 s1 σ1 H1) {a : Addr} (h : H1 a = none) {vs : List V} {ds : List D} (r : RVs w1 vs ds) :
    At T0 w s σ H w1 s1 σ1 (upd H1 a (.lst vs)) ∧ Val w1 s1.sl σ1 (upd H1 a (.lst vs)) (.ref a) (.ol ds) ∧ NewT s.sl σ H (.ref a) (.ol ds) := by
  refine ⟨b.ext (same_new h), ⟨⟨a, vs, rfl, upd_same, r, b.rel.ne_I h, b.rel.ne_ι h⟩, fun _ x e => ?_⟩, fun _ x e => ?_⟩
  · cases e
    exact b.rel.ne_own (gone_none h)
  · cases e
    exact .inr (b.dom a (gone_none h))
/-- a new thing that changes -/
theorem At.obj (b : At T0 w s σ H w1 s1 σ1 H1) {a : Addr} {o : HO} {x : AO} (h : H1 a = none) (r : RO w1 (upd H1 a o) a x) :
    At T0 w s σ H ⟨w1.I, w1.ι ++ [a]⟩ ⟨s1.sl, s1.hp ++ [x]⟩ σ1 (upd H1 a o) ∧ RV ⟨w1.I, w1.ι ++ [a]⟩ (.ref a) (.ref s1.hp.length) ∧ Le w1 ⟨w1.I, w1.ι ++ [a]⟩ := by
  have hi := b.rel.ne_I h
  have hm := b.rel.ne_ι h
  have ho := b.rel.ne_own (gone_none h)
  have l : Le w1 ⟨w1.I, w1.ι ++ [a]⟩ := ⟨Same.refl _, [a], rfl⟩
  have b2 := b.ext (same_new (o := o) h)
  have r2 := b2.rel
  refine ⟨⟨b.le.trans l, ⟨r2.same, r2.len, fun i t e => ?_, r2.dis, ⟨?_, ?_, fun n y e => ?_⟩, r2.tabs, r2.nt⟩, fun y u e n i m no => ?_, b2.dom, b.own⟩, .ref ?_, l⟩
  · obtain ⟨v, e1, q⟩ := r2.sl i t e
    refine ⟨v, e1, ?_⟩
    cases t with
    | d x => exact RV.mono l q
    | ol xs =>
      obtain ⟨c, vs, e2, e3, e4, e5, e6⟩ := q
      refine ⟨c, vs, e2, e3, RVs.mono l e4, e5, fun z => ?_⟩
      rcases List.mem_append.mp z with z | z
      · exact e6 z
      · have : c = a := by simpa using z
        subst this
        exact ho ⟨i, _, e, rfl, by rw [e1, e2]⟩
  · show (w1.ι ++ [a]).length = (s1.hp ++ [x]).length
    rw [List.length_append, List.length_append, r2.hp.len]
    rfl
  · refine List.nodup_append.mpr ⟨r2.hp.nd, by simp, fun y hy z hz => ?_⟩
    have : z = a := by simpa using hz
    subst this
    intro q
    subst q
    exact hm hy
  · have e : (s1.hp ++ [x])[n]? = some y := e
    by_cases hn : n < s1.hp.length
    · rw [List.getElem?_append_left hn] at e
      obtain ⟨c, e1, e2, q⟩ := r2.hp.at_ n y e
      refine ⟨c, ?_, e2, q.mono l⟩
      show (w1.ι ++ [a])[n]? = some c
      rw [List.getElem?_append_left (by rw [r2.hp.len]; exact hn)]
      exact e1
    · have hn2 : n = s1.hp.length := by
        have := (List.getElem?_eq_some_iff.mp e).1
        rw [List.length_append] at this
        simp at this
        omega
      subst hn2
      rw [List.getElem?_append_right (Nat.le_refl _)] at e
      simp at e
      subst e
      refine ⟨a, ?_, hi, r.mono l⟩
      show (w1.ι ++ [a])[s1.hp.length]? = some a
      rw [← r2.hp.len, List.getElem?_append_right (Nat.le_refl _)]
      simp
  · obtain ⟨e1, e2, e3⟩ := b2.fr y u e n i m no
    refine ⟨e1, e2, fun z => ?_⟩
    rcases List.mem_append.mp z with z | z
    · exact e3 z
    · have : y = a := by simpa using z
      subst this
      obtain ⟨ps, z⟩ := b.dom y (gone_none h) _ e
      exact n ps z
  · rw [← r2.hp.len]
    simp
end
end PL
end
section
set_option linter.all false
set_option maxRecDepth 100000
/-! PL2: what an expression of the program is worth, in the layer's words. -/
namespace PL
open PySem PySem.Spec PyProof.Rows L2

def wp (m : R α) (Φ : α → S → Prop) (Ψ : Nat → Hs → Prop) : Prop := match m with
  | .ok a s' => Φ a s'
  | .ex c h => Ψ c h
  | .bad => False
theorem wp_bind {m : M α} {f : α → M β} {s : S} {Φ : β → S → Prop} {Ψ : Nat → Hs → Prop} (h : wp (bind m f s) Φ Ψ) : wp (m s) (fun a s' => wp (f a s') Φ Ψ) Ψ := by
  unfold bind at h
  cases q : m s with
  | ok a s' => rw [q] at h; exact h
  | ex c g => rw [q] at h; exact h
  | bad => rw [q] at h; exact h
theorem wp_mono {m : R α} {Φ Φ' : α → S → Prop} {Ψ Ψ' : Nat → Hs → Prop} (h : wp m Φ Ψ) (h1 : ∀ a s, m = .ok a s → Φ a s → Φ' a s) (h2 : ∀ c g, Ψ c g → Ψ' c g) : wp m Φ' Ψ' := by
  cases m with
  | ok a s' => exact h1 _ _ rfl h
  | ex c g => exact h2 _ _ h
  | bad => exact h
theorem wp_see {f : S → Option α} {s : S} {Φ : α → S → Prop} {Ψ : Nat → Hs → Prop} (h : wp (see f s) Φ Ψ) : ∃ a, f s = some a ∧ Φ a s := by
  unfold see at h
  cases q : f s with
  | none => rw [q] at h; exact h.elim
  | some a => rw [q] at h; exact ⟨a, rfl, h⟩
theorem wp_lift {o : Option α} {s : S} {Φ : α → S → Prop} {Ψ : Nat → Hs → Prop} (h : wp (lift o s) Φ Ψ) : ∃ a, o = some a ∧ Φ a s := by
  cases o with
  | none => exact h.elim
  | some a => exact ⟨a, rfl, h⟩
theorem wp_needD {t : T} {s : S} {Φ : D → S → Prop} {Ψ : Nat → Hs → Prop} (h : wp (needD t s) Φ Ψ) : Φ t.toD s := by
  cases t with
  | d x => exact h
  | ol xs => exact h

/-- the fixed things: code tables, the classes of exceptions -/
structure Fx where
  T0 : List (Addr × Str)
  cv : Nat → Value
/-- an exception of the little language reaches the wish W -/
def Exc (F : Fx) (W : WX) (w : Wd) (s : S) (σ : L2.St) (H : Hp) : Nat → Hs → Prop := fun c h =>
  ∀ w' H', Le w w' → Rel F.T0 w' ⟨[], h⟩ [] H' → Fr w s.sl σ H w' H' → Dom H H' → ∀ σ', W (F.cv c) none σ' H'
/-- from (w, s, H) on: what is wanted of a value -/
def Fin (F : Fx) (w : Wd) (s : S) (σ : L2.St) (H : Hp) (Q : VK) : T → S → Prop := fun t s' =>
  ∀ w' H' v, At F.T0 w s σ H w' s' σ H' → Val w' s'.sl σ H' v t → NewT s.sl σ H v t → Q v H'
def tE (F : Fx) (W : WX) (m : M T) : TE := fun σ H Q => ∃ w s, Rel F.T0 w s σ H ∧ wp (m s) (Fin F w s σ H Q) (Exc F W w s σ H)
def tB (F : Fx) (W : WX) (m : M Bool) : TT := fun σ H Q => ∃ w s, Rel F.T0 w s σ H ∧ wp (m s) (fun b s' => ∀ w' H', At F.T0 w s σ H w' s' σ H' → Q b H') (Exc F W w s σ H)
def tDs (F : Fx) (W : WX) (m : M (List D)) : TA := fun σ H Q => ∃ w s, Rel F.T0 w s σ H ∧ wp (m s) (fun ds s' => ∀ w' H' vs, At F.T0 w s σ H w' s' σ H' → RVs w' vs ds → Q vs H') (Exc F W w s σ H)
/-- an argument of an operation -/
def AvOk (w : Wd) (sl : List (Option T)) (σ : L2.St) (H : Hp) (v : V) : Av → Prop
  | .t t => Val w sl σ H v t
  | .sl i => σ[i]? = some (some v)
def tAv (F : Fx) (W : WX) (m : M Av) : TE := fun σ H Q => ∃ w s, Rel F.T0 w s σ H ∧
  wp (m s) (fun a s' => ∀ w' H' v, At F.T0 w s σ H w' s' σ H' → AvOk w' s'.sl σ H' v a → (∀ t, a = .t t → NewT s.sl σ H v t) → Q v H') (Exc F W w s σ H)
inductive AvsOk (w : Wd) (sl : List (Option T)) (σ : L2.St) (H : Hp) : List V → List Av → Prop where
  | nil : AvsOk w sl σ H [] []
  | cons {v : V} {vs : List V} {a : Av} {as : List Av} : AvOk w sl σ H v a → AvsOk w sl σ H vs as → AvsOk w sl σ H (v :: vs) (a :: as)
def tAvs (F : Fx) (W : WX) (m : M (List Av)) : TA := fun σ H Q => ∃ w s, Rel F.T0 w s σ H ∧
  wp (m s) (fun as s' => ∀ w' H' vs, At F.T0 w s σ H w' s' σ H' → AvsOk w' s'.sl σ H' vs as → Q vs H') (Exc F W w s σ H)

section
variable {F : Fx} {W : WX} {w w1 w2 : Wd} {s s1 s2 : S} {σ σ1 : L2.St} {H H1 H2 : Hp} {v : V} {t : T} {a : Av}
theorem Exc.from (b : At F.T0 w s σ H w1 s1 σ1 H1) {c : Nat} {h : Hs} (e : Exc F W w s σ H c h) : Exc F W w1 s1 σ1 H1 c h := fun w' H' l r f d σ' => by
  refine e w' H' (b.le.trans l) r (fun x o h0 hn hi hm ho => ?_) (fun x z => b.dom x (d x z)) σ'
  obtain ⟨h1, i1, m1⟩ := b.fr x o h0 hn hi hm ho
  refine f x o h1 hn i1 m1 fun z => ?_
  rcases b.own x z with q | q
  · exact ho q
  · obtain ⟨ps, e⟩ := q _ h0
    exact hn ps e
theorem Fin.from (b : At F.T0 w s σ H w1 s1 σ H1) {Q : VK} {t : T} {s' : S} (e : Fin F w s σ H Q t s') : Fin F w1 s1 σ H1 Q t s' := fun w' H' v a q n => e w' H' v (b.trans a) q (b.newT n)
theorem AvOk.keep (q : AvOk w s.sl σ H v a) (b : At F.T0 w s σ H w1 s1 σ H1) : AvOk w1 s1.sl σ H1 v a := by
  cases a with
  | t t => exact Val.keep q b
  | sl i => exact q
theorem AvsOk.keep {vs : List V} {as : List Av} (q : AvsOk w s.sl σ H vs as) (b : At F.T0 w s σ H w1 s1 σ H1) : AvsOk w1 s1.sl σ H1 vs as := by
  induction q with
  | nil => exact .nil
  | cons h _ ih => exact .cons (h.keep b) ih
/-- what is read at last -/
theorem AvOk.get (r : Rel F.T0 w s σ H) (q : AvOk w s.sl σ H v a) (h : a.get s = some t) : RT w H v t := by
  cases a with
  | t u =>
    cases h
    exact q.rt
  | sl i =>
    have h : slot s i = some t := h
    unfold slot at h
    cases e : s.sl[i]? with
    | none => rw [e] at h; cases h
    | some o =>
      cases o with
      | none => rw [e] at h; cases h
      | some u =>
        rw [e] at h
        cases h
        obtain ⟨v', e1, q'⟩ := r.sl i _ e
        have e2 : σ[i]? = some (some v) := q
        rw [e2] at e1
        cases e1
        exact q'
inductive RTs (w : Wd) (H : Hp) : List V → List T → Prop where
  | nil : RTs w H [] []
  | cons {v : V} {vs : List V} {t : T} {ts : List T} : RT w H v t → RTs w H vs ts → RTs w H (v :: vs) (t :: ts)
theorem AvsOk.gets (r : Rel F.T0 w s σ H) : ∀ {vs : List V} {as : List Av} {ts : List T}, AvsOk w s.sl σ H vs as → gets s as = some ts → RTs w H vs ts
  | _, _, _, .nil, h => by
    cases h
    exact .nil
  | _, _, ts, .cons (a := a) (as := as) q qs, h => by
    unfold PL.gets at h
    cases e1 : a.get s with
    | none => rw [e1] at h; cases h
    | some x =>
      cases e2 : PL.gets s as with
      | none => rw [e1, e2] at h; cases h
      | some xs =>
        rw [e1, e2] at h
        cases h
        exact .cons (q.get r e1) (AvsOk.gets r qs e2)
theorem slot_some {i : Nat} (h : slot s i = some t) : s.sl[i]? = some (some t) := by
  unfold slot at h
  cases e : s.sl[i]? with
  | none => rw [e] at h; cases h
  | some o =>
    cases o with
    | none => rw [e] at h; cases h
    | some u => rw [e] at h; cases h; rfl

/-- a weaker reading is enough -/
theorem _root_.L2.PE.wk {X : Cx} {e : Expr} {t t' : TE} (h : PE X e t) (k : ∀ σ H Q, t' σ H Q → t σ H Q) : PE X e t' := ⟨fun pins s σ H Q I q => h.run pins s σ H Q I (k σ H Q q)⟩
theorem _root_.L2.PT.wk {X : Cx} {e : Expr} {t t' : TT} (h : PT X e t) (k : ∀ σ H Q, t' σ H Q → t σ H Q) : PT X e t' := ⟨fun pins s σ H Q I q => h.run pins s σ H Q I (k σ H Q q)⟩
theorem _root_.L2.PA.wk {X : Cx} {e : List Expr} {t t' : TA} (h : PA X e t) (k : ∀ σ H Q, t' σ H Q → t σ H Q) : PA X e t' := ⟨fun pos pins s σ H Q I q => h.run pos pins s σ H Q I (k σ H Q q)⟩

/-! ### names, constants -/
theorem tE_var {i : Nat} {Q : VK} (h : tE F W (see fun s => match slot s i with | some (.d x) => some (.d x) | _ => none) σ H Q) : tVar i σ H Q := by
  obtain ⟨w, s, r, h⟩ := h
  obtain ⟨a, e, q⟩ := wp_see h
  cases e1 : slot s i with
  | none => rw [e1] at e; cases e
  | some t =>
    rw [e1] at e
    cases t with
    | ol xs => cases e
    | d x =>
      cases e
      obtain ⟨v, e2, q2⟩ := r.sl i _ (slot_some e1)
      exact ⟨v, e2, q w H v (At.refl r) (Val.d q2) NewT.d⟩
theorem avOf_var {i : Nat} {m : M T} : avOf (.var i) m = see fun s => match slot s i with
    | some (.d x) => some (.t (.d x))
    | some _ => some (.sl i)
    | none => none := rfl
theorem tAv_var {i : Nat} {m : M T} {Q : VK} (h : tAv F W (avOf (.var i) m) σ H Q) : tVar i σ H Q := by
  obtain ⟨w, s, r, h⟩ := h
  rw [avOf_var] at h
  obtain ⟨a, e, q⟩ := wp_see h
  cases e1 : slot s i with
  | none => rw [e1] at e; cases e
  | some t =>
    rw [e1] at e
    obtain ⟨v, e2, q2⟩ := r.sl i _ (slot_some e1)
    refine ⟨v, e2, ?_⟩
    cases t with
    | ol xs =>
      cases e
      exact q w H v (At.refl r) e2 (fun t z => nomatch z)
    | d x =>
      cases e
      exact q w H v (At.refl r) (Val.d q2) (fun t z => by cases z; exact NewT.d)
/-- not a name: the value is the argument -/
theorem tAv_val {m : M T} {Q : VK} (h : tAv F W (bind m fun t => ret (.t t)) σ H Q) : tE F W m σ H Q := by
  obtain ⟨w, s, r, h⟩ := h
  refine ⟨w, s, r, wp_mono (wp_bind h) (fun t s' _ q => ?_) fun _ _ e => e⟩
  intro w' H' v a val n
  exact q w' H' v a val (fun t' z => by cases z; exact n)
theorem tE_ret {d : D} {Q : VK} (h : tE F W (ret (.d d)) σ H Q) (v : V) (r : ∀ w, RV w v d) : Q v H := by
  obtain ⟨w, s, rl, h⟩ := h
  exact h w H v (At.refl rl) (Val.d (r w)) NewT.d
theorem tE_mv {i : Nat} {Q : VK} (h : tE F W (fun s => match slot s i with | some t => R.ok t (setSl s i none) | none => .bad) σ H Q) : tVar i σ H Q := by
  obtain ⟨w, s, r, h⟩ := h
  cases e1 : slot s i with
  | none =>
    simp only [e1] at h
    exact h.elim
  | some t =>
    simp only [e1] at h
    have e0 := slot_some e1
    obtain ⟨v, e2, q2⟩ := r.sl i _ e0
    have hlt : i < s.sl.length := (List.getElem?_eq_some_iff.mp e0).1
    have at_ : ∀ (j : Nat) (u : T), (s.sl.set i none)[j]? = some (some u) → j ≠ i ∧ s.sl[j]? = some (some u) := fun j u z => by
      by_cases hj : i = j
      · subst hj
        rw [List.getElem?_set_self hlt] at z
        cases z
      · rw [List.getElem?_set_ne hj] at z
        exact ⟨fun q => hj q.symm, z⟩
    have sub : ∀ a, Own (s.sl.set i none) σ a → Own s.sl σ a := fun a ⟨j, u, z1, z2, z3⟩ => ⟨j, u, (at_ j u z1).2, z2, z3⟩
    refine ⟨v, e2, h w H v ⟨Le.refl _, ⟨r.same, ?_, fun j u z => r.sl j u (at_ j u z).2, fun j k a t u z1 z2 => r.dis j k a t u (at_ j t z1).2 (at_ k u z2).2, r.hp, r.tabs, r.nt⟩, Fr.refl, fun _ z => z, fun a z => .inl (sub a z)⟩ ⟨q2, ?_⟩ ?_⟩
    · show (s.sl.set i none).length = _
      rw [List.length_set]
      exact r.len
    · intro o a ea ⟨j, u, z1, z2, z3⟩
      obtain ⟨hj, z4⟩ := at_ j u z1
      exact hj (r.dis j i a u t z4 e0 z2 o z3 (by rw [e2, ea]))
    · intro o a ea
      exact .inl ⟨i, t, e0, o, by rw [e2, ea]⟩

/-! ### lists of arguments -/
theorem tDs_nil {Q : List V → Hp → Prop} (h : tDs F W (ret []) σ H Q) : tNil σ H Q := by
  obtain ⟨w, s, r, h⟩ := h
  exact h w H [] (At.refl r) .nil
theorem tDs_cons {m : M T} {ms : M (List D)} {Q : List V → Hp → Prop} (h : tDs F W (bind m fun t => bind (needD t) fun d => bind ms fun ds => ret (d :: ds)) σ H Q) :
    tCons (tE F W m) (tDs F W ms) σ H Q := by
  obtain ⟨w, s, r, h⟩ := h
  refine ⟨w, s, r, wp_mono (wp_bind h) (fun t s1 _ q => ?_) fun _ _ e => e⟩
  intro w1 H1 v1 a1 val1 n1
  obtain ⟨w2, a2, l2, r2, e2, _⟩ := a1.freeze val1 n1
  have q := wp_needD (wp_bind q)
  refine ⟨w2, s1, a2.rel, wp_mono (wp_bind q) (fun ds s3 _ q => ?_) fun _ _ e => e.from a2⟩
  intro w3 H3 vs a3 r3
  exact q w3 H3 (v1 :: vs) (a2.trans a3) (.cons (RV.mono a3.le r2) r3)
theorem tAvs_nil {Q : List V → Hp → Prop} (h : tAvs F W (ret []) σ H Q) : tNil σ H Q := by
  obtain ⟨w, s, r, h⟩ := h
  exact h w H [] (At.refl r) .nil
theorem tAvs_cons {m : M Av} {ms : M (List Av)} {Q : List V → Hp → Prop} (h : tAvs F W (bind m fun t => bind ms fun ds => ret (t :: ds)) σ H Q) :
    tCons (tAv F W m) (tAvs F W ms) σ H Q := by
  obtain ⟨w, s, r, h⟩ := h
  refine ⟨w, s, r, wp_mono (wp_bind h) (fun t s1 _ q => ?_) fun _ _ e => e⟩
  intro w1 H1 v1 a1 ok1 n1
  refine ⟨w1, s1, a1.rel, wp_mono (wp_bind q) (fun ds s3 _ q => ?_) fun _ _ e => e.from a1⟩
  intro w3 H3 vs a3 r3
  exact q w3 H3 (v1 :: vs) (a1.trans a3) (.cons (ok1.keep a3) r3)

/-! ### displays -/
theorem big_le {n : Nat} (h : n < big) : n ≤ sizeLine := Nat.le_of_lt (Nat.lt_trans h (by rw [big_eq]; decide))
theorem tE_tup {m : M (List D)} {Q : VK} {n : Nat} (hn : ∀ s ds s', m s = .ok ds s' → ds.length = n) (hb : n < big) (h : tE F W (bind m fun ds => ret (.d (.tup ds))) σ H Q) : tTup (tDs F W m) σ H Q := by
  obtain ⟨w, s, r, h⟩ := h
  refine ⟨w, s, r, wp_mono (wp_bind h) (fun ds s1 e q => ?_) fun _ _ e => e⟩
  intro w1 H1 vs a1 rs
  refine ⟨by rw [rs.length, hn _ _ _ e]; exact big_le hb, fun p hp => ?_⟩
  obtain ⟨w2, a2, l2, r2⟩ := a1.tup hp rs
  exact q w2 _ _ a2 (Val.d r2) NewT.d
theorem tE_lst {m : M (List D)} {Q : VK} {n : Nat} (hn : ∀ s ds s', m s = .ok ds s' → ds.length = n) (hb : n < big) (h : tE F W (bind m fun ds => ret (.ol ds)) σ H Q) : tLst (tDs F W m) σ H Q := by
  obtain ⟨w, s, r, h⟩ := h
  refine ⟨w, s, r, wp_mono (wp_bind h) (fun ds s1 e q => ?_) fun _ _ e => e⟩
  intro w1 H1 vs a1 rs
  refine ⟨by rw [rs.length, hn _ _ _ e]; exact big_le hb, fun p hp => ?_⟩
  obtain ⟨a2, v2, n2⟩ := a1.lst hp rs
  exact q w1 _ _ a2 v2 n2
theorem tE_hlst {m : M (List D)} {Q : VK} {n : Nat} (hn : ∀ s ds s', m s = .ok ds s' → ds.length = n) (hb : n < big) (h : tE F W (bind m fun ds => fun s => .ok (.d (.ref s.hp.length)) ⟨s.sl, s.hp ++ [.lst ds]⟩) σ H Q) : tLst (tDs F W m) σ H Q := by
  obtain ⟨w, s, r, h⟩ := h
  refine ⟨w, s, r, wp_mono (wp_bind h) (fun ds s1 e q => ?_) fun _ _ e => e⟩
  intro w1 H1 vs a1 rs
  refine ⟨by rw [rs.length, hn _ _ _ e]; exact big_le hb, fun p hp => ?_⟩
  obtain ⟨a2, r2, l2⟩ := a1.obj (o := .lst vs) (x := .lst ds) hp ⟨vs, upd_same, rs⟩
  exact q _ _ _ a2 (Val.d r2) NewT.d
theorem evs_len {C : Ctx} {ro : Bool} : ∀ (es : List E) (s : S) (ds : List D) (s' : S), E.evs C ro es s = .ok ds s' → ds.length = es.length
  | [], s, ds, s', h => by
    cases h
    rfl
  | e :: es, s, ds, s', h => by
    unfold E.evs at h
    unfold bind at h
    cases q : E.ev C ro e s with
    | ex _ _ => rw [q] at h; cases h
    | bad => rw [q] at h; cases h
    | ok t s1 =>
      rw [q] at h
      have h : bind (needD t) (fun d => bind (E.evs C ro es) fun ds => ret (d :: ds)) s1 = .ok ds s' := h
      have e1 : needD t s1 = .ok t.toD s1 := by cases t <;> rfl
      unfold bind at h
      rw [e1] at h
      have h : bind (E.evs C ro es) (fun ds => ret (t.toD :: ds)) s1 = .ok ds s' := h
      unfold bind at h
      cases q2 : E.evs C ro es s1 with
      | ex _ _ => rw [q2] at h; cases h
      | bad => rw [q2] at h; cases h
      | ok ds2 s2 =>
        rw [q2] at h
        cases h
        rw [List.length_cons, List.length_cons, evs_len es _ _ _ q2]

/-! ### truth, and, or, not, if -/
theorem wp_truth {a : Av} {Φ : Bool → S → Prop} {Ψ : Nat → Hs → Prop} (h : wp (truthAv a s) Φ Ψ) : ∃ b, a.get s = some (.d (.bl b)) ∧ Φ b s := by
  obtain ⟨b, e, q⟩ := wp_see h
  cases e1 : a.get s with
  | none => rw [e1] at e; cases e
  | some t =>
    rw [e1] at e
    cases t with
    | ol xs => cases e
    | d x =>
      cases x with
      | bl c =>
        cases e
        exact ⟨b, rfl, q⟩
      | _ => cases e
theorem tB_of {m : M Av} {Q : Bool → Hp → Prop} (h : tB F W (bind m truthAv) σ H Q) : L2.tB (tAv F W m) σ H Q := by
  obtain ⟨w, s, r, h⟩ := h
  refine ⟨w, s, r, wp_mono (wp_bind h) (fun a s1 e q => ?_) fun _ _ e => e⟩
  intro w1 H1 v a1 ok n
  obtain ⟨b, e1, q⟩ := wp_truth q
  have rt := ok.get a1.rel e1
  cases rt
  exact ⟨b, rfl, q w1 H1 a1⟩

/-- a bool's test decides -/
theorem tB_bind {m : M Bool} {f : Bool → M T} {Q : VK} (h : tE F W (bind m f) σ H Q) : tB F W m σ H fun c H1 => tE F W (f c) σ H1 Q := by
  obtain ⟨w, s, r, h⟩ := h
  refine ⟨w, s, r, wp_mono (wp_bind h) (fun c s1 e q => ?_) fun _ _ e => e⟩
  intro w1 H1 a1
  exact ⟨w1, s1, a1.rel, wp_mono q (fun t s2 _ k => k.from a1) fun _ _ e => e.from a1⟩
theorem tE_bl {b : Bool} {Q : VK} (h : tE F W (ret (.d (.bl b))) σ H Q) : Q (.bl b) H := tE_ret h _ fun _ => .bl b
/-- a test, by the argument -/
theorem tA_bind {m : M Av} {f : Bool → M T} {Q : VK} (h : tE F W (bind (bind m truthAv) f) σ H Q) : tAv F W m σ H fun x H1 => ∃ c, x = .bl c ∧ tE F W (f c) σ H1 Q := tB_of (tB_bind h)
theorem tE_and {m : M Av} {mb : M T} {Q : VK} (h : tE F W (bind (bind m truthAv) fun c => if c then mb else ret (.d (.bl false))) σ H Q) : tAndV (tAv F W m) (tE F W mb) σ H Q := by
  obtain ⟨w, s, r, h⟩ := tA_bind h
  refine ⟨w, s, r, wp_mono h (fun a s1 _ q => ?_) fun _ _ e => e⟩
  intro w1 H1 v a1 ok n
  obtain ⟨c, rfl, q⟩ := q w1 H1 v a1 ok n
  refine ⟨c, rfl, ?_⟩
  cases c with
  | true => exact q
  | false => exact tE_bl q
theorem tE_or {m : M Av} {mb : M T} {Q : VK} (h : tE F W (bind (bind m truthAv) fun c => if c then ret (.d (.bl true)) else mb) σ H Q) : tOrV (tAv F W m) (tE F W mb) σ H Q := by
  obtain ⟨w, s, r, h⟩ := tA_bind h
  refine ⟨w, s, r, wp_mono h (fun a s1 _ q => ?_) fun _ _ e => e⟩
  intro w1 H1 v a1 ok n
  obtain ⟨c, rfl, q⟩ := q w1 H1 v a1 ok n
  refine ⟨c, rfl, ?_⟩
  cases c with
  | true => exact tE_bl q
  | false => exact q
theorem tE_not {m : M Av} {Q : VK} (h : tE F W (bind (bind m truthAv) fun c => ret (.d (.bl (!c)))) σ H Q) : tNotV (tAv F W m) σ H Q := by
  obtain ⟨w, s, r, h⟩ := tA_bind h
  refine ⟨w, s, r, wp_mono h (fun a s1 _ q => ?_) fun _ _ e => e⟩
  intro w1 H1 v a1 ok n
  obtain ⟨c, rfl, q⟩ := q w1 H1 v a1 ok n
  exact ⟨c, rfl, tE_bl q⟩
theorem tE_if {m : M Bool} {ma mb : M T} {Q : VK} (h : tE F W (bind m fun c => if c then ma else mb) σ H Q) : tIf (tB F W m) (tE F W ma) (tE F W mb) σ H Q := by
  obtain ⟨w, s, r, h⟩ := tB_bind h
  refine ⟨w, s, r, wp_mono h (fun c s1 _ q => ?_) fun _ _ e => e⟩
  intro w1 H1 a1
  have q := q w1 H1 a1
  cases c with
  | true => exact q
  | false => exact q

/-- what is asked of an operation on values -/
def PrL (F : Fx) (p : P) (vs : List V) (σ : L2.St) (H : Hp) (Q : VK) : Prop := ∃ w s ts t, Rel F.T0 w s σ H ∧ RTs w H vs ts ∧ p.run s.hp ts = some t ∧ Fin F w s σ H Q t s
theorem wp_runP {p : P} {as : List Av} {Φ : T → S → Prop} {Ψ : Nat → Hs → Prop} (h : wp (runP p as s) Φ Ψ) : ∃ ts t, gets s as = some ts ∧ p.run s.hp ts = some t ∧ Φ t s := by
  obtain ⟨t, e, q⟩ := wp_see h
  cases e1 : gets s as with
  | none => rw [e1] at e; cases e
  | some ts =>
    rw [e1] at e
    exact ⟨ts, t, rfl, e, q⟩
theorem tE_prim {p : P} {ms : M (List Av)} {Q : VK} (h : tE F W (bind ms fun as => runP p as) σ H Q) : tAvs F W ms σ H fun vs H1 => PrL F p vs σ H1 Q := by
  obtain ⟨w, s, r, h⟩ := h
  refine ⟨w, s, r, wp_mono (wp_bind h) (fun as s1 _ q => ?_) fun _ _ e => e⟩
  intro w1 H1 vs a1 ok
  obtain ⟨ts, t, e1, e2, q⟩ := wp_runP q
  exact ⟨w1, s1, ts, t, a1.rel, ok.gets a1.rel e1, e2, q.from a1⟩
theorem tE_prim1 {p : P} {m : M Av} {Q : VK} (h : tE F W (bind (bind m fun t => bind (ret []) fun ts => ret (t :: ts)) fun as => runP p as) σ H Q) : tAv F W m σ H fun x H1 => PrL F p [x] σ H1 Q := by
  obtain ⟨w, s, r, h⟩ := tAvs_cons (tE_prim h)
  refine ⟨w, s, r, wp_mono h (fun as s1 _ q => ?_) fun _ _ e => e⟩
  intro w1 H1 vs a1 ok n
  exact tAvs_nil (q w1 H1 vs a1 ok n)
theorem tE_prim2 {p : P} {m m' : M Av} {Q : VK} (h : tE F W (bind (bind m fun t => bind (bind m' fun u => bind (ret []) fun ts => ret (u :: ts)) fun ts => ret (t :: ts)) fun as => runP p as) σ H Q) :
    tAv F W m σ H fun x H1 => tAv F W m' σ H1 fun y H2 => PrL F p [x, y] σ H2 Q := by
  obtain ⟨w, s, r, h⟩ := tAvs_cons (tE_prim h)
  refine ⟨w, s, r, wp_mono h (fun as s1 _ q => ?_) fun _ _ e => e⟩
  intro w1 H1 vs a1 ok n
  obtain ⟨w, s, r, h⟩ := tAvs_cons (q w1 H1 vs a1 ok n)
  refine ⟨w, s, r, wp_mono h (fun as s1 _ q => ?_) fun _ _ e => e⟩
  intro w1 H1 vs a1 ok n
  exact tAvs_nil (q w1 H1 vs a1 ok n)
theorem tE_prim3 {p : P} {m m' m2 : M Av} {Q : VK} (h : tE F W (bind (bind m fun t => bind (bind m' fun u => bind (bind m2 fun u2 => bind (ret []) fun ts => ret (u2 :: ts)) fun ts => ret (u :: ts)) fun ts => ret (t :: ts)) fun as => runP p as) σ H Q) :
    tAv F W m σ H fun x H1 => tAv F W m' σ H1 fun y H2 => tAv F W m2 σ H2 fun z H3 => PrL F p [x, y, z] σ H3 Q := by
  obtain ⟨w, s, r, h⟩ := tAvs_cons (tE_prim h)
  refine ⟨w, s, r, wp_mono h (fun as s1 _ q => ?_) fun _ _ e => e⟩
  intro w1 H1 vs a1 ok n
  obtain ⟨w, s, r, h⟩ := tAvs_cons (q w1 H1 vs a1 ok n)
  refine ⟨w, s, r, wp_mono h (fun as s1 _ q => ?_) fun _ _ e => e⟩
  intro w1 H1 vs a1 ok n
  obtain ⟨w, s, r, h⟩ := tAvs_cons (q w1 H1 vs a1 ok n)
  refine ⟨w, s, r, wp_mono h (fun as s1 _ q => ?_) fun _ _ e => e⟩
  intro w1 H1 vs a1 ok n
  exact tAvs_nil (q w1 H1 vs a1 ok n)
end
end PL
end
section
set_option linter.all false
set_option maxRecDepth 100000
set_option maxHeartbeats 4000000
/-! PL3: the operations on values, in the layer's words. -/
namespace PL
open PySem PySem.Spec PyProof.Rows L2
section
variable {F : Fx} {W : WX} {w w1 w2 : Wd} {s s1 s2 : S} {σ : L2.St} {H H1 H2 : Hp} {v v' : V} {t t' : T} {K : PySem.W.Frag}

theorem lst_of (r : Rel F.T0 w s σ H) (q : RT w H v t) {xs : List D} (h : lstOf s.hp t = some xs) : ∃ a vs, v = .ref a ∧ H a = some (.lst vs) ∧ RVs w vs xs := by
  cases t with
  | ol ys =>
    cases h
    obtain ⟨a, vs, e1, e2, e3, _⟩ := q
    exact ⟨a, vs, e1, e2, e3⟩
  | d x =>
    cases x with
    | lst ys =>
      cases h
      cases q with
      | lst h hs => exact ⟨_, _, rfl, r.same _ _ h, hs⟩
    | ref n =>
      cases q with
      | ref hn =>
        rename_i a
        have h : (match s.hp[n]? with | some (.lst xs) => some xs | _ => none) = some xs := h
        cases e : s.hp[n]? with
        | none => rw [e] at h; cases h
        | some o =>
          rw [e] at h
          cases o with
          | dct kvs => cases h
          | lst ys =>
            cases h
            obtain ⟨b, e1, _, vs, e2, e3⟩ := r.hp.at_ n _ e
            rw [hn] at e1
            cases e1
            exact ⟨_, vs, rfl, e2, e3⟩
    | _ => cases h
theorem seq_of (r : Rel F.T0 w s σ H) (q : RT w H v t) {xs : List D} (h : seqOf s.hp t = some xs) :
    ∃ a vs, v = .ref a ∧ ((H a = some (.lst vs) ∧ lstOf s.hp t = some xs) ∨ (H a = some (.tup vs) ∧ t = .d (.tup xs))) ∧ RVs w vs xs := by
  have other : lstOf s.hp t = some xs → ∃ a vs, v = .ref a ∧ ((H a = some (.lst vs) ∧ lstOf s.hp t = some xs) ∨ (H a = some (.tup vs) ∧ t = .d (.tup xs))) ∧ RVs w vs xs := fun h => by
    obtain ⟨a, vs, e1, e2, e3⟩ := lst_of r q h
    exact ⟨a, vs, e1, .inl ⟨e2, h⟩, e3⟩
  cases t with
  | ol ys => exact other h
  | d x =>
    cases x with
    | tup ys =>
      cases h
      cases q with
      | tup h hs => exact ⟨_, _, rfl, .inr ⟨r.same _ _ h, rfl⟩, hs⟩
    | _ => exact other h
/-- an answer that is a value -/
theorem Fin.val {Q : VK} {x : D} (f : Fin F w s σ H Q (.d x) s) (r : Rel F.T0 w s σ H) (q : RV w v x) : Q v H := f w H v (At.refl r) (Val.d q) NewT.d
/-- .. a new list -/
theorem Fin.lst {Q : VK} {xs : List D} {vs : List V} (f : Fin F w s σ H Q (.ol xs) s) (r : Rel F.T0 w s σ H) (q : RVs w vs xs) : ∀ p, H p = none → Q (.ref p) (upd H p (.lst vs)) := fun p hp => by
  obtain ⟨a2, v2, n2⟩ := (At.refl r).lst hp q
  exact f _ _ _ a2 v2 n2
/-- .. a new tuple -/
theorem Fin.tup {Q : VK} {xs : List D} {vs : List V} (f : Fin F w s σ H Q (.d (.tup xs)) s) (r : Rel F.T0 w s σ H) (q : RVs w vs xs) : ∀ p, H p = none → Q (.ref p) (upd H p (.tup vs)) := fun p hp => by
  obtain ⟨w2, a2, l2, r2⟩ := (At.refl r).tup hp q
  exact f _ _ _ a2 (Val.d r2) NewT.d
theorem RTs.two {x y : V} {ts : List T} (h : RTs w H [x, y] ts) : ∃ a b, ts = [a, b] ∧ RT w H x a ∧ RT w H y b := by
  cases h with
  | cons h1 h2 =>
    cases h2 with
    | cons h2 h3 =>
      cases h3
      exact ⟨_, _, rfl, h1, h2⟩
theorem RTs.one {x : V} {ts : List T} (h : RTs w H [x] ts) : ∃ a, ts = [a] ∧ RT w H x a := by
  cases h with
  | cons h1 h2 =>
    cases h2
    exact ⟨_, rfl, h1⟩
theorem RTs.three {x y z : V} {ts : List T} (h : RTs w H [x, y, z] ts) : ∃ a b c, ts = [a, b, c] ∧ RT w H x a ∧ RT w H y b ∧ RT w H z c := by
  cases h with
  | cons h1 h2 =>
    obtain ⟨a, b, rfl, h3, h4⟩ := h2.two
    exact ⟨_, _, _, rfl, h1, h3, h4⟩

/-! ### arithmetic -/
def rAdd : R2 := fun x y H Q => rI0 (fun i j => .int (i + j)) x y H Q ∨ (∃ i j, x = .str i ∧ y = .str j ∧ i.length + j.length ≤ sizeLine ∧ Q (.str (i ++ j)) H) ∨ rCat x y H Q
theorem op_addA {X : Cx} : OpR X (binaryOp .Add) rAdd := OpR.or op_add (OpR.or op_add_str op_cat)
theorem strOk_app {x y : Str} (h : PyData.strOk x = true) (k : PyData.strOk y = true) : PyData.strOk (x ++ y) = true := by
  show (x.cps ++ y.cps).all (· < 0x110000) = true
  rw [Array.all_append]
  unfold PyData.strOk at h k
  rw [h, k]
  rfl
theorem pr_add {x y : V} {Q : VK} (h : PrL F .add [x, y] σ H Q) : rAdd x y H Q := by
  obtain ⟨w, s, ts, t, r, rts, e, f⟩ := h
  obtain ⟨a, b, rfl, ra, rb⟩ := rts.two
  have e : addT s.hp a b = some t := e
  have lists : addL s.hp a b = some t → rAdd x y H Q := fun e => by
    unfold addL at e
    cases e1 : lstOf s.hp a with
    | none => rw [e1] at e; cases e
    | some xs =>
      cases e2 : lstOf s.hp b with
      | none => rw [e1, e2] at e; cases e
      | some ys =>
        rw [e1, e2] at e
        simp only at e
        split at e
        · rename_i hz
          cases e
          obtain ⟨p, vs, rfl, hp, r1⟩ := lst_of r ra e1
          obtain ⟨q, us, rfl, hq, r2⟩ := lst_of r rb e2
          exact .inr (.inr ⟨p, q, vs, us, rfl, rfl, hp, hq, by rw [r1.length, r2.length]; exact big_le hz, f.lst r (r1.append r2)⟩)
        · cases e
  cases a with
  | ol xs => exact lists e
  | d da =>
    cases da with
    | int i =>
      cases b with
      | d db =>
        cases db with
        | int j =>
          cases e
          cases ra
          cases rb
          exact .inl ⟨i, j, rfl, rfl, f.val r (.int _)⟩
        | _ => exact lists e
      | ol ys => exact lists e
    | str i =>
      cases b with
      | d db =>
        cases db with
        | str j =>
          have e : (if i.length + j.length < big then some (T.d (.str (i ++ j))) else none) = some t := e
          split at e
          · rename_i hz
            cases e
            cases ra with
            | str _ h1 =>
              cases rb with
              | str _ h2 => exact .inr (.inl ⟨i, j, rfl, rfl, big_le hz, f.val r (.str _ (strOk_app h1 h2))⟩)
          · cases e
        | _ => exact lists e
      | ol ys => exact lists e
    | _ => exact lists e
theorem opI_some {c : Int → Int → Bool} {g : Int → Int → Int} {a b t : T} (e : opI c g [a, b] = some t) : ∃ i j, a = .d (.int i) ∧ b = .d (.int j) ∧ c i j = true ∧ t = .d (.int (g i j)) := by
  unfold opI at e
  split at e
  · rename_i i j heq
    cases heq
    split at e
    · rename_i hc
      cases e
      exact ⟨i, j, rfl, rfl, hc, rfl⟩
    · cases e
  · cases e
theorem cmpI_some {g : Int → Int → Bool} {a b t : T} (e : cmpI g [a, b] = some t) : ∃ i j, a = .d (.int i) ∧ b = .d (.int j) ∧ t = .d (.bl (g i j)) := by
  unfold cmpI at e
  split at e
  · rename_i i j heq
    cases heq
    cases e
    exact ⟨i, j, rfl, rfl, rfl⟩
  · cases e
/-- two ints in, an int out -/
theorem pr_int {p : P} {c : Int → Int → Bool} {g : Int → Int → Int} (hp : ∀ h a b, p.run h [a, b] = opI c g [a, b]) {x y : V} {Q : VK} (h : PrL F p [x, y] σ H Q) :
    ∃ i j, x = .int i ∧ y = .int j ∧ c i j = true ∧ Q (.int (g i j)) H := by
  obtain ⟨w, s, ts, t, r, rts, e, f⟩ := h
  obtain ⟨a, b, rfl, ra, rb⟩ := rts.two
  rw [hp] at e
  obtain ⟨i, j, rfl, rfl, hc, rfl⟩ := opI_some e
  cases ra
  cases rb
  exact ⟨i, j, rfl, rfl, hc, f.val r (.int _)⟩
theorem pr_cmp {p : P} {g : Int → Int → Bool} (hp : ∀ h a b, p.run h [a, b] = cmpI g [a, b]) {x y : V} {Q : VK} (h : PrL F p [x, y] σ H Q) :
    ∃ i j, x = .int i ∧ y = .int j ∧ Q (.bl (g i j)) H := by
  obtain ⟨w, s, ts, t, r, rts, e, f⟩ := h
  obtain ⟨a, b, rfl, ra, rb⟩ := rts.two
  rw [hp] at e
  obtain ⟨i, j, rfl, rfl, rfl⟩ := cmpI_some e
  cases ra
  cases rb
  exact ⟨i, j, rfl, rfl, f.val r (.bl _)⟩
theorem pr_sub {x y : V} {Q : VK} (h : PrL F .sub [x, y] σ H Q) : rI0 (fun i j => .int (i - j)) x y H Q := by
  obtain ⟨i, j, e1, e2, _, q⟩ := pr_int (fun _ _ _ => rfl) h
  exact ⟨i, j, e1, e2, q⟩
theorem pr_fdiv {x y : V} {Q : VK} (h : PrL F .fdiv [x, y] σ H Q) : rI CDiv (fun i j => .int (i / j)) x y H Q := by
  obtain ⟨i, j, e1, e2, c, q⟩ := pr_int (fun _ _ _ => rfl) h
  simp only [Bool.and_eq_true, decide_eq_true_eq] at c
  exact ⟨i, j, e1, e2, c, q⟩
theorem pr_mod {x y : V} {Q : VK} (h : PrL F .mod [x, y] σ H Q) : rI (fun _ j => 0 < j) (fun i j => .int (i % j)) x y H Q := by
  obtain ⟨i, j, e1, e2, c, q⟩ := pr_int (fun _ _ _ => rfl) h
  exact ⟨i, j, e1, e2, of_decide_eq_true c, q⟩
theorem pr_pow {x y : V} {Q : VK} (h : PrL F .pow [x, y] σ H Q) : rI CPow (fun i j => .int (i ^ j.toNat)) x y H Q := by
  obtain ⟨i, j, e1, e2, c, q⟩ := pr_int (fun _ _ _ => rfl) h
  simp only [Bool.and_eq_true, decide_eq_true_eq] at c
  exact ⟨i, j, e1, e2, ⟨c.1.1, c.1.2, c.2⟩, q⟩
def rMul : R2 := fun x y H Q => rI CMul (fun i j => .int (i * j)) x y H Q ∨ rRep x y H Q
theorem op_mulA {X : Cx} : OpR X (binaryOp .Mult) rMul := OpR.or op_mul op_rep
theorem small_ok {i : Int} (h : small i = true) : -(2 ^ 64) < i ∧ i < 2 ^ 64 := by
  unfold small at h
  simp only [Bool.and_eq_true, decide_eq_true_eq] at h
  exact h
theorem pr_mul {x y : V} {Q : VK} (h : PrL F .mul [x, y] σ H Q) : rMul x y H Q := by
  obtain ⟨w, s, ts, t, r, rts, e, f⟩ := h
  obtain ⟨a, b, rfl, ra, rb⟩ := rts.two
  have e : mulT s.hp a b = some t := e
  have lists : (∃ k, b = .d (.int k) ∧ mulL s.hp a k = some t) → rMul x y H Q := fun ⟨k, hb, e'⟩ => by
    clear e
    subst hb
    unfold mulL at e'
    cases e1 : lstOf s.hp a with
    | none => rw [e1] at e'; cases e'
    | some xs =>
      rw [e1] at e'
      simp only at e'
      split at e'
      · rename_i hz
        cases e'
        cases rb
        obtain ⟨p, vs, rfl, hp, r1⟩ := lst_of r ra e1
        have hbig : (big : Int) < 2 ^ 63 := by rw [big_eq]; decide
        have hbig2 : -(2 ^ 63) < -(big : Int) := by rw [big_eq]; decide
        exact .inr ⟨p, k, vs, rfl, rfl, hp, by omega, by omega, by rw [r1.length]; exact big_le hz.1, f.lst r (r1.rep _)⟩
      · cases e'
  cases a with
  | ol xs =>
    cases b with
    | ol ys => cases e
    | d db =>
      cases db with
      | int k => exact lists ⟨k, rfl, e⟩
      | _ => cases e
  | d da =>
    cases b with
    | ol ys => cases da <;> cases e
    | d db =>
      cases db with
      | int k =>
        cases da with
        | int i =>
          have e : (if (small i || small k) = true then some (T.d (.int (i * k))) else none) = some t := e
          split at e
          · rename_i hc
            cases e
            cases ra
            cases rb
            simp only [Bool.or_eq_true] at hc
            exact .inl ⟨i, k, rfl, rfl, hc.imp small_ok small_ok, f.val r (.int _)⟩
          · cases e
        | _ => exact lists ⟨k, rfl, e⟩
      | _ => cases da <;> cases e
theorem pr_neg {x : V} {Q : VK} (h : PrL F .neg [x] σ H Q) : rU (fun i => .int (-i)) x H Q := by
  obtain ⟨w, s, ts, t, r, rts, e, f⟩ := h
  obtain ⟨a, rfl, ra⟩ := rts.one
  cases a with
  | ol _ => cases e
  | d x =>
    cases x with
    | int i =>
      cases e
      cases ra
      exact ⟨i, rfl, f.val r (.int _)⟩
    | _ => cases e

/-! ### comparisons -/
def rEqA (K : PySem.W.Frag) : R2 := fun x y H Q => rEq x y H Q ∨ rEqD K x y H Q
def rNeA (K : PySem.W.Frag) : R2 := fun x y H Q => rNe x y H Q ∨ rNeD K x y H Q
theorem op_eqA {X : Cx} (hu : X.A.units + 64 < cLine) : OpR X (compareOp .Eq) (rEqA X.K) := OpR.or op_eq (op_eqD hu)
theorem op_neA {X : Cx} (hu : X.A.units + 64 < cLine) : OpR X (compareOp .NotEq) (rNeA X.K) := OpR.or op_ne (op_neD hu)
theorem RT.fit (r : Rel F.T0 w s σ H) (q : RT w H v t) {d : D} (h : t.fitP = some d) : Dp K H v d.py ∧ SeqAt.shaped d.py = true ∧ d.pure = true := by
  have fit : ∀ {d : D}, d.fit = true → d.pure = true := fun {d} h => by
    unfold D.fit at h
    simp only [Bool.and_eq_true] at h
    exact h.1
  cases t with
  | d x =>
    have h : (if x.fit then some x else none) = some d := h
    split at h
    · rename_i hf
      cases h
      exact ⟨RV.dp r.same (fit hf) q, RV.shaped q hf, fit hf⟩
    · cases h
  | ol xs =>
    have h : (if (D.lst xs).fit then some (D.lst xs) else none) = some d := h
    split at h
    · rename_i hf
      cases h
      obtain ⟨a, vs, rfl, e2, rs, hi, hm⟩ := q
      have l : Le w ⟨upd w.I a (.lst vs), w.ι⟩ := ⟨same_new hi, [], by simp⟩
      have rv : RV ⟨upd w.I a (.lst vs), w.ι⟩ (.ref a) (.lst xs) := .lst upd_same (RVs.mono l rs)
      have sm : Same (upd w.I a (.lst vs)) H := fun b o e => by
        by_cases hb : b = a
        · subst hb
          rw [upd_same] at e
          cases e
          exact e2
        · rw [upd_ne hb] at e
          exact r.same _ _ e
      exact ⟨RV.dp sm (fit hf) rv, RV.shaped rv hf, fit hf⟩
    · cases h
theorem blT_some {o : Option Bool} {t : T} (e : blT o = some t) : ∃ c, o = some c ∧ t = .d (.bl c) := by
  cases o with
  | none => cases e
  | some c =>
    cases e
    exact ⟨c, rfl, rfl⟩
theorem eqT_some {a b : T} {c : Bool} (e : eqT a b = some c) : (∃ i j, a = .d (.bl i) ∧ b = .d (.bl j) ∧ c = (i == j)) ∨ ∃ x y, a.fitP = some x ∧ b.fitP = some y ∧ c = x.eqv y := by
  have other : eqF a b = some c → ∃ x y, a.fitP = some x ∧ b.fitP = some y ∧ c = x.eqv y := fun e => by
    unfold eqF at e
    cases e1 : a.fitP with
    | none => rw [e1] at e; cases e
    | some x =>
      cases e2 : b.fitP with
      | none => rw [e1, e2] at e; cases e
      | some y =>
        rw [e1, e2] at e
        cases e
        exact ⟨x, y, rfl, rfl, rfl⟩
  cases a with
  | ol _ => exact .inr (other e)
  | d x =>
    cases x with
    | bl i =>
      cases b with
      | ol _ => exact .inr (other e)
      | d y =>
        cases y with
        | bl j =>
          cases e
          exact .inl ⟨i, j, rfl, rfl, rfl⟩
        | _ => exact .inr (other e)
    | _ => exact .inr (other e)
theorem bl_eq (i j : Bool) : decide (V.bl i = V.bl j) = (i == j) := dec_bl
theorem pr_eq {x y : V} {Q : VK} (h : PrL F .eq [x, y] σ H Q) : rEqA K x y H Q := by
  obtain ⟨w, s, ts, t, r, rts, e, f⟩ := h
  obtain ⟨a, b, rfl, ra, rb⟩ := rts.two
  obtain ⟨c, e', rfl⟩ := blT_some (show blT (eqT a b) = some t from e)
  rcases eqT_some e' with ⟨i, j, rfl, rfl, rfl⟩ | ⟨d, d', h1, h2, rfl⟩
  · cases ra
    cases rb
    exact .inl ⟨rfl, by rw [bl_eq]; exact f.val r (.bl _)⟩
  · obtain ⟨p1, p2, p3⟩ := ra.fit (K := K) r h1
    obtain ⟨q1, q2, q3⟩ := rb.fit (K := K) r h2
    exact .inr ⟨d.py, d'.py, p1, q1, p2, q2, by rw [D.eqv_py d d' p3 q3]; exact f.val r (.bl _)⟩
theorem pr_ne {x y : V} {Q : VK} (h : PrL F .ne [x, y] σ H Q) : rNeA K x y H Q := by
  obtain ⟨w, s, ts, t, r, rts, e, f⟩ := h
  obtain ⟨a, b, rfl, ra, rb⟩ := rts.two
  obtain ⟨c, e', rfl⟩ := blT_some (show blT ((eqT a b).map (!·)) = some t from e)
  clear e
  cases e0 : eqT a b with
  | none => rw [e0] at e'; cases e'
  | some c0 =>
    rw [e0] at e'
    cases e'
    rcases eqT_some e0 with ⟨i, j, rfl, rfl, rfl⟩ | ⟨d, d', h1, h2, rfl⟩
    · cases ra
      cases rb
      exact .inl ⟨rfl, by rw [bl_eq]; exact f.val r (.bl _)⟩
    · obtain ⟨p1, p2, p3⟩ := ra.fit (K := K) r h1
      obtain ⟨q1, q2, q3⟩ := rb.fit (K := K) r h2
      exact .inr ⟨d.py, d'.py, p1, q1, p2, q2, by rw [D.eqv_py d d' p3 q3]; exact f.val r (.bl _)⟩
/-- is None -/
theorem pr_isN {x : V} {Q : VK} (h : PrL F .isN [x] σ H Q) : Q (.bl (decide (x = .non))) H := by
  obtain ⟨w, s, ts, t, r, rts, e, f⟩ := h
  obtain ⟨a, rfl, ra⟩ := rts.one
  cases a with
  | ol _ => cases e
  | d d =>
    cases ra <;> (cases e; exact f.val r (.bl _))
theorem pr_notN {x : V} {Q : VK} (h : PrL F .notN [x] σ H Q) : Q (.bl (!decide (x = .non))) H := by
  obtain ⟨w, s, ts, t, r, rts, e, f⟩ := h
  obtain ⟨a, rfl, ra⟩ := rts.one
  cases a with
  | ol _ => cases e
  | d d =>
    cases ra <;> (cases e; exact f.val r (.bl _))

/-! ### a text in a list of texts -/
theorem all_flat : ∀ {ds : List D} {vs : List V}, RVs w vs ds → ds.all isZ = true → vs.all flatV = true ∧ ∀ z, inV (.str z) vs = inD (.str z) ds
  | [], _, .nil, _ => ⟨rfl, fun _ => rfl⟩
  | x :: r, _, .cons h hs, k => by
    rw [List.all_cons, Bool.and_eq_true] at k
    obtain ⟨h1, h2⟩ := all_flat hs k.2
    cases h with
    | str y hy =>
      refine ⟨by rw [List.all_cons, h1]; rfl, fun z => ?_⟩
      have h2 := h2 z
      unfold inV inD at h2 ⊢
      rw [List.any_cons, List.any_cons, h2]
      rfl
    | _ => exact nomatch k.1
theorem pr_in {x y : V} {Q : VK} (h : PrL F .in_ [x, y] σ H Q) : rIn K false x y H Q := by
  obtain ⟨w, s, ts, t, r, rts, e, f⟩ := h
  obtain ⟨a, b, rfl, ra, rb⟩ := rts.two
  obtain ⟨c, e', rfl⟩ := blT_some (show blT (inT s.hp a b) = some t from e)
  clear e
  cases a with
  | ol _ => cases e'
  | d d =>
    cases d with
    | str z =>
      have e : (match lstOf s.hp b with | some xs => if xs.all isZ then some (inD (.str z) xs) else none | none => none) = some c := e'
      clear e'
      cases e1 : lstOf s.hp b with
      | none => rw [e1] at e; cases e
      | some xs =>
        rw [e1] at e
        simp only at e
        split at e
        · rename_i hz
          cases e
          obtain ⟨p, vs, rfl, hp, r1⟩ := lst_of r rb e1
          obtain ⟨k1, k2⟩ := all_flat r1 hz
          cases ra
          refine ⟨p, vs, rfl, .inl (.inl (.inl hp)), rfl, k1, ?_⟩
          show Q (.bl (inV (.str z) vs)) H
          rw [k2]
          exact f.val r (.bl _)
        · cases e
    | _ => cases e'
end
end PL
end
section
set_option linter.all false
set_option maxRecDepth 100000
set_option maxHeartbeats 4000000
/-! PL4: places, slices, calls of built-in functions, in the layer's words. -/
namespace PL
open PySem PySem.Spec PyProof.Rows L2
section
variable {F : Fx} {W : WX} {w w1 w2 : Wd} {s s1 s2 : S} {σ : L2.St} {H H1 H2 : Hp} {v v' : V} {t t' : T} {K : PySem.W.Frag}

/-! ### places -/
def rIxD : R2 := fun x y H Q => ∃ a v, x = .ref a ∧ DGet H a y (some v) ∧ Q v H
theorem ix_dict {X : Cx} (hu : X.A.units + 1 < cLine) : IxR X rIxD := by
  intro value slice pins s σ H x y v u Q I rx ry h hs
  obtain ⟨a, z, rfl, g, q⟩ := h
  cases rx
  have hT := dict_typeIs I g
  unfold subscriptTail
  refine wpAny_bind ?_
  rw [getitemInPython_of_ne hT.not_modules]
  refine wpAny_bind (wpAny_specialOf hT PySem.F.slot_dict_getitem.lookup ?_)
  have fin : wpAny (model X.prog X.w) X.A (subscripted slice false (.ref a) u) (fun r s₃ => wpAny (model X.prog X.w) X.A (letTemporaryGo value (.ref a) r >>= fun _ => pure r) (EP X pins σ Q) X.xe s₃) X.xe s := by
    rw [hs]
    refine wpAny_operating (d_getItem hu I g ry fun w' s3 I3 rw' => wpAny_bind (wpAny_letTemporaryGo (wpAny_pure ⟨z, H, I3, rw', q⟩)))
  first
    | exact wpAny_pure (wpAny_bind fin)
    | exact wpAny_bind fin
def rIxA (K : PySem.W.Frag) : R2 := fun x y H Q => rIx K x y H Q ∨ rIxD x y H Q
theorem ix_any {X : Cx} (hu : X.A.units + 1 < cLine) : IxR X (rIxA X.K) := ix_seq.or (ix_dict hu)
theorem atI_map {α β : Type} {xs : List α} {ys : List β} (hl : xs.length = ys.length) {i : Int} {y : β} (h : atI ys i = some y) : ∃ j : Nat, atI xs i = xs[j]? ∧ ys[j]? = some y := by
  unfold atI at h ⊢
  rw [hl]
  cases e : ixN ys.length i with
  | none => rw [e] at h; cases h
  | some j =>
    rw [e] at h
    exact ⟨j, rfl, h⟩
theorem RVs.atI {vs : List V} {ds : List D} (r : RVs w vs ds) {i : Int} {d : D} (h : L2.atI ds i = some d) : ∃ v, L2.atI vs i = some v ∧ RV w v d := by
  obtain ⟨j, e1, e2⟩ := atI_map (xs := vs) r.length h
  obtain ⟨v, e3, q⟩ := r.get e2
  exact ⟨v, by rw [e1, e3], q⟩
theorem paired_get : ∀ {ks : List (Key × V)} {kvs : List (Str × D)} {k : Str} {d : D}, Paired (fun (p : Key × V) (q : Str × D) => p.1 = .inr q.1 ∧ RV w p.2 q.2) ks kvs → kGet kvs k = some d →
    ∃ v, valV ks (.inr k) = some v ∧ RV w v d
  | _, _, k, d, .nil, h => by cases h
  | (k1, v1) :: ks, (x, d1) :: kvs, k, d, .cons ⟨h1, h2⟩ r, h => by
    have h1 : k1 = .inr x := h1
    subst h1
    unfold kGet at h
    unfold valV
    rw [List.find?_cons]
    by_cases e : (x == k) = true
    · rw [if_pos e] at h
      cases h
      have e' : x = k := eq_of_beq e
      subst e'
      rw [show decide ((Sum.inr x : Key) = Sum.inr x) = true from decide_eq_true rfl]
      exact ⟨v1, rfl, h2⟩
    · rw [if_neg e] at h
      have ne : ¬ (Sum.inr x : Key) = Sum.inr k := fun z => e (by cases z; exact beq_self_eq_true _)
      rw [show decide ((Sum.inr x : Key) = Sum.inr k) = false from decide_eq_false ne]
      exact paired_get r h
theorem pr_idx {x y : V} {Q : VK} (h : PrL F .idx [x, y] σ H Q) : rIxA K x y H Q := by
  obtain ⟨w, s, ts, t, r, rts, e, f⟩ := h
  obtain ⟨a, b, rfl, ra, rb⟩ := rts.two
  have e : idxT s.hp a b = some t := e
  have lists : (∃ i, b = .d (.int i) ∧ idxL s.hp a i = some t) → rIxA K x y H Q := fun ⟨i, hb, e'⟩ => by
    clear e
    subst hb
    unfold idxL at e'
    cases e1 : seqOf s.hp a with
    | none => rw [e1] at e'; cases e'
    | some xs =>
      rw [e1] at e'
      simp only at e'
      cases e2 : L2.atI xs i with
      | none => rw [e2] at e'; cases e'
      | some d =>
        rw [e2] at e'
        cases e'
        cases rb
        obtain ⟨p, vs, rfl, hp, r1⟩ := seq_of r ra e1
        obtain ⟨v, e3, rv⟩ := r1.atI e2
        rcases hp with ⟨hp, _⟩ | ⟨hp, _⟩
        · exact .inl (.inl ⟨p, vs, i, v, rfl, rfl, .inl (.inl hp), e3, f.val r rv⟩)
        · exact .inl (.inr (.inl ⟨p, vs, i, v, rfl, rfl, .inl (.inl hp), e3, f.val r rv⟩))
  cases a with
  | ol xs =>
    cases b with
    | ol _ => cases e
    | d db =>
      cases db with
      | int i => exact lists ⟨i, rfl, e⟩
      | _ => cases e
  | d da =>
    cases b with
    | ol _ => cases da <;> cases e
    | d db =>
      cases da with
      | ref n =>
        cases db with
        | int i => exact lists ⟨i, rfl, e⟩
        | str k =>
          have e : idxK s.hp n k = some t := e
          unfold idxK at e
          cases e1 : s.hp[n]? with
          | none => rw [e1] at e; cases e
          | some o =>
            rw [e1] at e
            cases o with
            | lst _ => cases e
            | dct kvs =>
              simp only at e
              cases e2 : kGet kvs k with
              | none => rw [e2] at e; cases e
              | some d =>
                rw [e2] at e
                cases e
                cases ra with
                | ref hn =>
                  cases rb
                  obtain ⟨p, q1, _, ks, q2, q3⟩ := r.hp.at_ n _ e1
                  rw [hn] at q1
                  cases q1
                  obtain ⟨v, e3, rv⟩ := paired_get q3 e2
                  refine .inr ⟨_, v, rfl, ?_, f.val r rv⟩
                  rw [← e3]
                  exact DGet.k (k := .inr k) q2
        | _ => cases e
      | str z =>
        cases db with
        | int i =>
          have e : idxZ z i = some t := e
          unfold idxZ at e
          split at e
          · rename_i hz
            cases e2 : L2.atI z.cps.toList i with
            | none => rw [e2] at e; cases e
            | some c =>
              rw [e2] at e
              cases e
              cases ra with
              | str _ hx =>
                cases rb
                refine .inl (.inr (.inr ⟨z, i, c, rfl, rfl, big_le hz, e2, f.val r (.str _ ?_)⟩))
                obtain ⟨j, _, e3⟩ := atI_map (xs := z.cps.toList) rfl e2
                unfold PyData.strOk at hx ⊢
                rw [← Array.all_toList, List.all_eq_true] at hx
                have := hx c (List.mem_of_getElem? e3)
                simpa using this
          · cases e
        | _ => cases e
      | _ =>
        cases db with
        | int i => exact lists ⟨i, rfl, e⟩
        | _ => cases e

/-! ### slices -/
def rSlA (K : PySem.W.Frag) : V → Option Int → Option Int → Hp → VK → Prop := fun x lo hi H Q => rSlL K x lo hi H Q ∨ rSlS x lo hi H Q
theorem sl_any {X : Cx} : SlR X (rSlA X.K) := SlR.or sl_list sl_str
theorem strOk_cut {z : Str} (h : PyData.strOk z = true) (lo hi : Option Int) : PyData.strOk (cutS z lo hi) = true := by
  unfold PyData.strOk at h ⊢
  unfold cutS
  rw [← Array.all_toList, List.all_eq_true] at h
  simp only [List.all_toArray, List.all_eq_true]
  intro c hc
  exact h c (List.mem_of_mem_drop (List.mem_of_mem_take hc))
theorem RVs.cut {vs : List V} {ds : List D} (r : RVs w vs ds) (lo hi : Option Int) : RVs w (cutV vs lo hi) (cutD ds lo hi) := by
  unfold cutV cutD
  rw [r.length]
  exact (r.drop _).take _
theorem sl_fin {lo hi : Option Int} {x : V} {Q : VK} (r : Rel F.T0 w s σ H) (ra : RT w H x t) (e : slT s.hp lo hi t = some t') (f : Fin F w s σ H Q t' s) : rSlA K x lo hi H Q := by
  have lists : slL s.hp lo hi t = some t' → rSlA K x lo hi H Q := fun e => by
    unfold slL at e
    cases e1 : lstOf s.hp t with
    | none => rw [e1] at e; cases e
    | some xs =>
      rw [e1] at e
      cases e
      obtain ⟨p, vs, rfl, hp, r1⟩ := lst_of r ra e1
      exact .inl ⟨p, vs, rfl, .inl (.inl hp), f.lst r (r1.cut _ _)⟩
  cases t with
  | ol _ => exact lists e
  | d d =>
    cases d with
    | str z =>
      have e : (if z.length < big then some (T.d (.str (cutS z lo hi))) else none) = some t' := e
      split at e
      · rename_i hz
        cases e
        cases ra with
        | str _ hx => exact .inr ⟨z, rfl, big_le hz, f.val r (.str _ (strOk_cut hx _ _))⟩
      · cases e
    | _ => exact lists e
theorem pr_sl0 {x : V} {Q : VK} (h : PrL F (.sl false false) [x] σ H Q) : rSlA K x none none H Q := by
  obtain ⟨w, s, ts, t, r, rts, e, f⟩ := h
  obtain ⟨a, rfl, ra⟩ := rts.one
  exact sl_fin r ra e f
theorem pr_sl1 {x y : V} {Q : VK} (h : PrL F (.sl true false) [x, y] σ H Q) : ∃ i, y = .int i ∧ rSlA K x (some i) none H Q := by
  obtain ⟨w, s, ts, t, r, rts, e, f⟩ := h
  obtain ⟨a, b, rfl, ra, rb⟩ := rts.two
  cases b with
  | ol _ => cases e
  | d d =>
    cases d with
    | int i =>
      cases rb
      exact ⟨i, rfl, sl_fin r ra e f⟩
    | _ => cases e
theorem pr_sl2 {x y : V} {Q : VK} (h : PrL F (.sl false true) [x, y] σ H Q) : ∃ i, y = .int i ∧ rSlA K x none (some i) H Q := by
  obtain ⟨w, s, ts, t, r, rts, e, f⟩ := h
  obtain ⟨a, b, rfl, ra, rb⟩ := rts.two
  cases b with
  | ol _ => cases e
  | d d =>
    cases d with
    | int i =>
      cases rb
      exact ⟨i, rfl, sl_fin r ra e f⟩
    | _ => cases e
theorem pr_sl3 {x y z : V} {Q : VK} (h : PrL F (.sl true true) [x, y, z] σ H Q) : ∃ i j, y = .int i ∧ z = .int j ∧ rSlA K x (some i) (some j) H Q := by
  obtain ⟨w, s, ts, t, r, rts, e, f⟩ := h
  obtain ⟨a, b, c, rfl, ra, rb, rc⟩ := rts.three
  cases b with
  | ol _ => cases e
  | d d =>
    cases c with
    | ol _ => cases d <;> cases e
    | d d' =>
      cases d with
      | int i =>
        cases d' with
        | int j =>
          cases rb
          cases rc
          exact ⟨i, j, rfl, rfl, sl_fin r ra e f⟩
        | _ => cases e
      | _ => cases d' <;> cases e

/-! ### calls of built-in functions -/
def rLenA (K : PySem.W.Frag) : List V → Hp → VK → Prop := fun xs H Q => (∃ p ys, xs = [.ref p] ∧ (SqL K H p ys ∨ SqT K H p ys) ∧ Q (.int ys.length) H) ∨ ∃ z, xs = [.str z] ∧ z.length ≤ sizeLine ∧ Q (.int z.length) H
theorem CallR.or {X : Cx} {f : Value} {r r' : List V → Hp → VK → Prop} (h : CallR X f r) (h' : CallR X f r') : CallR X f (fun xs H Q => r xs H Q ∨ r' xs H Q) := by
  intro pins s σ H xs us Q I rx q
  rcases q with q | q
  · exact h pins s σ H xs us Q I rx q
  · exact h' pins s σ H xs us Q I rx q
theorem call_lenA {X : Cx} : CallR X (.builtin "len") (rLenA X.K) := CallR.or call_len_seq call_len_str
theorem pr_len {vs : List V} {Q : VK} (h : PrL F .len vs σ H Q) : rLenA K vs H Q := by
  obtain ⟨w, s, ts, t, r, rts, e, f⟩ := h
  cases rts with
  | nil => cases e
  | @cons x vs a ts ra rts =>
    cases rts with
    | cons _ _ => cases e
    | nil =>
      have e : lenT s.hp a = some t := e
      have lists : lenL s.hp a = some t → rLenA K [x] H Q := fun e => by
        unfold lenL at e
        cases e1 : seqOf s.hp a with
        | none => rw [e1] at e; cases e
        | some xs =>
          rw [e1] at e
          cases e
          obtain ⟨p, vs, rfl, hp, r1⟩ := seq_of r ra e1
          refine .inl ⟨p, vs, rfl, ?_, by rw [r1.length]; exact f.val r (.int _)⟩
          rcases hp with ⟨hp, _⟩ | ⟨hp, _⟩
          · exact .inl (.inl (.inl hp))
          · exact .inr (.inl (.inl hp))
      cases a with
      | ol _ => exact lists e
      | d d =>
        cases d with
        | str z =>
          have e : (if z.length < big then some (T.d (.int z.length)) else none) = some t := e
          split at e
          · rename_i hz
            cases e
            cases ra
            exact .inr ⟨z, rfl, big_le hz, f.val r (.int _)⟩
          · cases e
        | _ => exact lists e
theorem pr_int_ {vs : List V} {Q : VK} (h : PrL F .int_ vs σ H Q) : (∃ i, vs = [.int i] ∧ Q (.int i) H) ∨ ∃ k, vs = [.bl k] ∧ Q (.int (if k then 1 else 0)) H := by
  obtain ⟨w, s, ts, t, r, rts, e, f⟩ := h
  cases rts with
  | nil => cases e
  | @cons x vs a ts ra rts =>
    cases rts with
    | cons _ _ => cases a <;> first | (cases e; done) | (rename_i d; cases d <;> cases e)
    | nil =>
      cases a with
      | ol _ => cases e
      | d d =>
        cases d with
        | int i =>
          cases e
          cases ra
          exact .inl ⟨i, rfl, f.val r (.int _)⟩
        | _ => cases e
theorem pr_abs {vs : List V} {Q : VK} (h : PrL F .abs vs σ H Q) : ∃ i, vs = [.int i] ∧ Q (.int (if i < 0 then -i else i)) H := by
  obtain ⟨w, s, ts, t, r, rts, e, f⟩ := h
  cases rts with
  | nil => cases e
  | @cons x vs a ts ra rts =>
    cases rts with
    | cons _ _ => cases a <;> first | (cases e; done) | (rename_i d; cases d <;> cases e)
    | nil =>
      cases a with
      | ol _ => cases e
      | d d =>
        cases d with
        | int i =>
          cases e
          cases ra
          exact ⟨i, rfl, f.val r (.int _)⟩
        | _ => cases e
theorem pr_sum {vs : List V} {Q : VK} (h : PrL F .sum vs σ H Q) : rSum K vs H Q := by
  obtain ⟨w, s, ts, t, r, rts, e, f⟩ := h
  cases rts with
  | nil => cases e
  | @cons x vs a ts ra rts =>
    cases rts with
    | cons _ _ => cases e
    | nil =>
      have e : sumT s.hp a = some t := e
      unfold sumT at e
      cases e1 : lstOf s.hp a with
      | none => rw [e1] at e; cases e
      | some xs =>
        rw [e1] at e
        simp only at e
        cases e2 : toInts xs with
        | none => rw [e2] at e; cases e
        | some ns =>
          rw [e2] at e
          cases e
          obtain ⟨p, vs, rfl, hp, r1⟩ := lst_of r ra e1
          refine ⟨p, ns, rfl, ?_, f.val r (.int _)⟩
          rw [← r1.ints e2]
          exact .inl (.inl hp)
theorem pr_tuple {vs : List V} {Q : VK} (h : PrL F .tuple vs σ H Q) :
    ∃ p ys, vs = [.ref p] ∧ ((SqL K H p ys ∧ ∀ l, H l = none → Q (.ref l) (upd H l (.tup ys))) ∨ (SqT K H p ys ∧ Q (.ref p) H)) := by
  obtain ⟨w, s, ts, t, r, rts, e, f⟩ := h
  cases rts with
  | nil => cases e
  | @cons x vs a ts ra rts =>
    cases rts with
    | cons _ _ => cases e
    | nil =>
      have e : tupT s.hp a = some t := e
      unfold tupT at e
      cases e1 : seqOf s.hp a with
      | none => rw [e1] at e; cases e
      | some xs =>
        rw [e1] at e
        cases e
        obtain ⟨p, vs, rfl, hp, r1⟩ := seq_of r ra e1
        refine ⟨p, vs, rfl, ?_⟩
        rcases hp with ⟨hp, _⟩ | ⟨hp, ea⟩
        · exact .inl ⟨.inl (.inl hp), f.tup r r1⟩
        · subst ea
          exact .inr ⟨.inl (.inl hp), f.val r ra⟩

/-! ### sorting texts -/
theorem ltCps_irr : ∀ a : List Nat, ltCps a a = false
  | [] => rfl
  | x :: a => by
    show (decide (x < x) || (x == x && ltCps a a)) = false
    rw [ltCps_irr a]
    simp
theorem ltCps_asym : ∀ a b : List Nat, ltCps a b = true → ltCps b a = false
  | [], [], h => by cases h
  | [], _ :: _, _ => rfl
  | _ :: _, [], h => by cases h
  | x :: a, y :: b, h => by
    simp only [ltCps, Bool.or_eq_true, Bool.and_eq_true, decide_eq_true_eq, beq_iff_eq] at h
    simp only [ltCps, Bool.or_eq_false_iff, Bool.and_eq_false_iff, decide_eq_false_iff_not, beq_eq_false_iff_ne]
    rcases h with h | ⟨h, k⟩
    · exact ⟨by omega, .inl (by omega)⟩
    · exact ⟨by omega, .inr (ltCps_asym a b k)⟩
theorem ltCps_tri : ∀ a b : List Nat, ltCps a b = false → ltCps b a = false → a = b
  | [], [], _, _ => rfl
  | [], _ :: _, h, _ => by cases h
  | _ :: _, [], _, h => by cases h
  | x :: a, y :: b, h, k => by
    simp only [ltCps, Bool.or_eq_false_iff, Bool.and_eq_false_iff, decide_eq_false_iff_not, beq_eq_false_iff_ne] at h k
    have e : x = y := by omega
    subst e
    rw [ltCps_tri a b (h.2.resolve_left (by simp)) (k.2.resolve_left (by simp))]
theorem ltCps_trans : ∀ a b c : List Nat, ltCps b a = false → ltCps c b = false → ltCps c a = false
  | [], _, [], _, _ => rfl
  | [], [], _ :: _, _, _ => rfl
  | [], _ :: _, c :: cs, h, k => rfl
  | _ :: _, [], _, h, _ => by cases h
  | _ :: _, _ :: _, [], _, k => by cases k
  | x :: a, y :: b, z :: c, h, k => by
    simp only [ltCps, Bool.or_eq_false_iff, Bool.and_eq_false_iff, decide_eq_false_iff_not, beq_eq_false_iff_ne] at h k ⊢
    refine ⟨by omega, ?_⟩
    by_cases e : z = x
    · right
      have e1 : y = x := by omega
      have e2 : z = y := by omega
      exact ltCps_trans a b c (h.2.resolve_left (by simp [e1])) (k.2.resolve_left (by simp [e2]))
    · exact .inl e
/-- rising: no text is ahead of the one before it -/
def RiseZ (l : List Str) : Prop := l.Pairwise fun x y => ltZ y x = false
theorem rise_of : ∀ {x : Str} {l : List Str}, risingS x l = true → RiseZ (x :: l)
  | x, [], _ => List.pairwise_singleton _ _
  | x, y :: l, h => by
    have h : (!ltCps y.cps.toList x.cps.toList && risingS y l) = true := h
    rw [Bool.and_eq_true, Bool.not_eq_true'] at h
    have ih := rise_of h.2
    refine List.pairwise_cons.mpr ⟨fun z hz => ?_, ih⟩
    rcases List.mem_cons.mp hz with e | hz
    · rw [e]
      exact h.1
    · exact ltCps_trans _ _ _ h.1 ((List.pairwise_cons.mp ih).1 z hz)
theorem riseS {l : List Str} (h : sortedS l = true) : RiseZ l := by
  cases l with
  | nil => exact List.Pairwise.nil
  | cons x l => exact rise_of h
theorem insZ_perm (x : Str) : ∀ l : List Str, (insZ x l).Perm (x :: l)
  | [] => List.Perm.refl _
  | y :: l => by
    unfold insZ
    split
    · exact ((insZ_perm x l).cons y).trans (List.Perm.swap x y l)
    · exact List.Perm.refl _
theorem sortZ_perm : ∀ l : List Str, (sortZ l).Perm l
  | [] => List.Perm.refl _
  | x :: l => (insZ_perm x (sortZ l)).trans ((sortZ_perm l).cons x)
theorem insZ_rise (x : Str) : ∀ l : List Str, RiseZ l → RiseZ (insZ x l)
  | [], _ => List.pairwise_singleton _ _
  | y :: l, h => by
    unfold insZ
    obtain ⟨h1, h2⟩ := List.pairwise_cons.mp h
    split
    · rename_i hlt
      refine List.pairwise_cons.mpr ⟨fun z hz => ?_, insZ_rise x l h2⟩
      rcases List.mem_cons.mp ((insZ_perm x l).mem_iff.mp hz) with e | hz
      · rw [e]
        exact ltCps_asym _ _ hlt
      · exact h1 z hz
    · rename_i hlt
      have hlt : ltZ y x = false := by simpa using hlt
      refine List.pairwise_cons.mpr ⟨fun z hz => ?_, h⟩
      rcases List.mem_cons.mp hz with e | hz
      · rw [e]
        exact hlt
      · exact ltCps_trans _ _ _ hlt (h1 z hz)
theorem sortZ_rise : ∀ l : List Str, RiseZ (sortZ l)
  | [] => List.Pairwise.nil
  | x :: l => insZ_rise x _ (sortZ_rise l)
theorem rise_unique : ∀ {a b : List Str}, a.Perm b → RiseZ a → RiseZ b → a = b
  | [], b, p, _, _ => by rw [List.Perm.nil_eq p]
  | x :: a, [], p, _, _ => by cases List.Perm.eq_nil p
  | x :: a, y :: b, p, h, k => by
    obtain ⟨h1, h2⟩ := List.pairwise_cons.mp h
    obtain ⟨k1, k2⟩ := List.pairwise_cons.mp k
    have e : x = y := by
      have hx : x ∈ y :: b := p.mem_iff.mp List.mem_cons_self
      have hy : y ∈ x :: a := p.mem_iff.mpr List.mem_cons_self
      rcases List.mem_cons.mp hx with e | hx
      · exact e
      · rcases List.mem_cons.mp hy with e | hy
        · exact e.symm
        · have e := ltCps_tri _ _ (h1 y hy) (k1 x hx)
          have e2 : x.cps = y.cps := by
            have := congrArg List.toArray e
            simpa using this.symm
          cases x
          cases y
          cases e2
          rfl
    subst e
    rw [rise_unique (List.Perm.cons_inv p) h2 k2]
def rSortedZ (K : PySem.W.Frag) : List V → Hp → VK → Prop := fun vs H Q => ∃ (a : Addr) (xs : List Str), vs = [V.ref a] ∧ SqL K H a (xs.map V.str) ∧ ∀ p, H p = none → Q (.ref p) (upd H p (.lst ((sortZ xs).map V.str)))
theorem cr_sortedZ {X : Cx} : CallR X (.builtin "sorted") (rSortedZ X.K) := by
  intro pins s σ H vs us Q I r h
  obtain ⟨a, xs, rfl, hs, q⟩ := h
  obtain ⟨its, rv, hl, hz⟩ := I.list hs
  rw [Vals.ref1 r]
  have hlen0 := rv.length
  rw [List.length_map] at hlen0 hz
  refine PyProof.Rows.sorted_strsAny hl.isList rv.strs (by rw [← hlen0]; exact hz) fun out ys h1 h2 h3 => ?_
  have e : ys = sortZ xs := rise_unique (h2.trans (sortZ_perm xs).symm) (riseS h3) (sortZ_rise xs)
  subst e
  obtain ⟨ep, he'⟩ := PyProof.Rows.sortedAll_at s.heap its out
  have hlen : ((sortZ xs).map V.str).length ≤ sizeLine := by rw [List.length_map, h2.length_eq]; exact hz
  exact ⟨.ref _, upd H (s.heap.objs.size + 1) (.lst ((sortZ xs).map V.str)), I.laid (t' := s.toks) (fun _ _ => PyProof.Rows.sortedAll_old) (Nat.le_succ _) ⟨hlen, out.toList, ep, vals_of_strs h1, he'⟩, rfl, q _ (I.hok.fresh (Nat.le_succ _))⟩
theorem pr_sorted {vs : List V} {Q : VK} (h : PrL F .sorted vs σ H Q) : rSortedZ K vs H Q := by
  obtain ⟨w, s, ts, t, r, rts, e, f⟩ := h
  cases rts with
  | nil => cases e
  | @cons x vs a ts ra rts =>
    cases rts with
    | cons _ _ => cases e
    | nil =>
      have e : sortT s.hp a = some t := e
      unfold sortT at e
      cases e1 : lstOf s.hp a with
      | none => rw [e1] at e; cases e
      | some xs =>
        rw [e1] at e
        simp only at e
        cases e2 : toStrs xs with
        | none => rw [e2] at e; cases e
        | some ns =>
          rw [e2] at e
          cases e
          obtain ⟨p, vs, rfl, hp, r1⟩ := lst_of r ra e1
          obtain ⟨e3, ok⟩ := r1.strs e2
          refine ⟨p, ns, rfl, ?_, f.lst r (RVs.of_strs fun x hx => ok x ((sortZ_perm ns).mem_iff.mp hx))⟩
          rw [← e3]
          exact .inl (.inl hp)
/-- sep.join(texts) -/
theorem strOk_glued (z : Str) (hz : PyData.strOk z = true) : ∀ (l : List Str) (acc : Array Nat), acc.all (· < 0x110000) = true → (∀ x ∈ l, PyData.strOk x = true) → (l.foldl (fun acc p => acc ++ z.cps ++ p.cps) acc).all (· < 0x110000) = true
  | [], acc, h, _ => h
  | x :: l, acc, h, k => by
    rw [List.foldl_cons]
    refine strOk_glued z hz l _ ?_ fun y hy => k y (List.mem_cons_of_mem _ hy)
    have h1 := k x List.mem_cons_self
    unfold PyData.strOk at hz h1
    rw [Array.all_append, Array.all_append, h, hz, h1]
    rfl
theorem strOk_join {z : Str} (hz : PyData.strOk z = true) {l : List Str} (k : ∀ x ∈ l, PyData.strOk x = true) : PyData.strOk (PySem.Txt.join z l) = true := by
  show ((l.drop 1).foldl (fun acc p => acc ++ z.cps ++ p.cps) (l.headD Str.empty).cps).all (· < 0x110000) = true
  refine strOk_glued z hz _ _ ?_ fun x hx => k x (List.mem_of_mem_drop hx)
  cases l with
  | nil => simp [Str.empty]
  | cons x l => exact k x List.mem_cons_self
theorem pr_join {x y : V} {Q : VK} (h : PrL F .join [x, y] σ H Q) : ∃ a p, ∃ ys : List Str, x = .str a ∧ [y] = [.ref p] ∧ (SqL K H p (ys.map V.str) ∨ SqT K H p (ys.map V.str)) ∧
    (ys.map (·.length)).sum + ys.length * a.length ≤ 16777216 ∧ Q (.str (PySem.Txt.join a ys)) H := by
  obtain ⟨w, s, ts, t, r, rts, e, f⟩ := h
  obtain ⟨a, b, rfl, ra, rb⟩ := rts.two
  cases a with
  | ol _ => cases e
  | d d =>
    cases d with
    | str z =>
      have e : joinT s.hp z b = some t := e
      unfold joinT at e
      cases e1 : lstOf s.hp b with
      | none => rw [e1] at e; cases e
      | some xs =>
        rw [e1] at e
        simp only at e
        cases e2 : toStrs xs with
        | none => rw [e2] at e; cases e
        | some ns =>
          rw [e2] at e
          simp only at e
          split at e
          · rename_i hz
            cases e
            obtain ⟨p, vs, rfl, hp, r1⟩ := lst_of r rb e1
            obtain ⟨e3, ok⟩ := r1.strs e2
            cases ra with
            | str _ hx =>
              refine ⟨z, p, ns, rfl, rfl, .inl (.inl (.inl (by rw [← e3]; exact hp))), ?_, f.val r (.str _ (strOk_join hx ok))⟩
              have : big < 16777216 := by rw [big_eq]; decide
              omega
          · cases e
    | _ => cases e
end
end PL
end
section
set_option linter.all false
set_option maxRecDepth 100000
set_option maxHeartbeats 4000000
/-! PL5: what is walked, targets, comprehensions, in the layer's words. -/
namespace PL
open PySem PySem.Spec PyProof.Rows L2
section
variable {F : Fx} {W : WX} {w w1 w2 w3 : Wd} {s s1 s2 s3 : S} {σ σ1 σ2 σ3 : L2.St} {H H1 H2 H3 : Hp} {v v' : V} {t t' : T} {K : PySem.W.Frag}

/-! ### sources -/
/-- the iterator walks xs as things stand at (w, H) -/
structure Wk (J : It) (xs : List D) (w : Wd) (H : Hp) : Prop where
  goes : ∀ i, i < xs.length → J.go i H
  stops : J.stop xs.length H
  yields : ∀ i v H', i < xs.length → J.yld i H v H' → H' = H ∧ ∃ d, xs[i]? = some d ∧ RV w v d
def tS (F : Fx) (W : WX) (ow : Bool) (m : M (List D)) : TI := fun σ H R => ∃ w s, Rel F.T0 w s σ H ∧
  wp (m s) (fun xs s' => ∀ w' H' J, At F.T0 w s σ H w' s' σ H' → (∀ w2 s2 σ2 H2, At F.T0 w' s' σ H' w2 s2 σ2 H2 → (ow = true → s2.sl = s'.sl ∧ σ2 = σ) → Wk J xs w2 H2) → R J H') (Exc F W w s σ H)
theorem _root_.L2.PI.or {X : Cx} {tg it : Expr} {a b : TI} (h : PI X tg it a) (k : PI X tg it b) : PI X tg it (fun σ H R => a σ H R ∨ b σ H R) := ⟨fun pins s σ H R I q => q.elim (h.run pins s σ H R I) (k.run pins s σ H R I)⟩
theorem _root_.L2.PI.wk {X : Cx} {tg it : Expr} {a b : TI} (h : PI X tg it a) (k : ∀ σ H R, b σ H R → a σ H R) : PI X tg it b := ⟨fun pins s σ H R I q => h.run pins s σ H R I (k σ H R q)⟩
theorem wk_list {a : Addr} {vs : List V} {xs : List D} (h : H a = some (.lst vs)) (r : RVs w vs xs) : Wk (Itl K a) xs w H := by
  have hs : SqL K H a vs := .inl (.inl h)
  refine ⟨fun i hi => ?_, ⟨vs, hs, by rw [r.length]; exact Nat.le_refl _⟩, fun i v H' hi ⟨e, q⟩ => ⟨e, ?_⟩⟩
  · obtain ⟨v, e, _⟩ := r.get (List.getElem?_eq_getElem hi)
    exact ⟨vs, v, hs, e⟩
  · obtain ⟨d, e1, e2⟩ := r.get' (q vs hs)
    exact ⟨d, e1, e2⟩
theorem wk_scr {a : Addr} {vs : List V} {xs : List D} (h : Rd H a (.lst vs)) (r : RVs w vs xs) : Wk (Itl K a) xs w H := by
  have hs : SqL K H a vs := .inl h
  refine ⟨fun i hi => ?_, ⟨vs, hs, by rw [r.length]; exact Nat.le_refl _⟩, fun i v H' hi ⟨e, q⟩ => ⟨e, ?_⟩⟩
  · obtain ⟨v, e, _⟩ := r.get (List.getElem?_eq_getElem hi)
    exact ⟨vs, v, hs, e⟩
  · obtain ⟨d, e1, e2⟩ := r.get' (q vs hs)
    exact ⟨d, e1, e2⟩
theorem wk_tup {a : Addr} {vs : List V} {xs : List D} (h : H a = some (.tup vs)) (r : RVs w vs xs) : Wk (Itt K a) xs w H := by
  have hs : SqT K H a vs := .inl (.inl h)
  refine ⟨fun i hi => ?_, ⟨vs, hs, by rw [r.length]; exact Nat.le_refl _⟩, fun i v H' hi ⟨e, q⟩ => ⟨e, ?_⟩⟩
  · obtain ⟨v, e, _⟩ := r.get (List.getElem?_eq_getElem hi)
    exact ⟨vs, v, hs, e⟩
  · obtain ⟨d, e1, e2⟩ := r.get' (q vs hs)
    exact ⟨d, e1, e2⟩
theorem wk_str {z : Str} (hz : PyData.strOk z = true) : Wk (Its z) (signsOf z) w H := by
  have hl : (signsOf z).length = z.cps.size := by simp [signsOf]
  refine ⟨fun i hi => by rw [hl] at hi; exact hi, by rw [hl]; exact Nat.le_refl _, fun i v H' hi ⟨e, c, e1, e2⟩ => ⟨e, .str ⟨#[c]⟩, ?_, ?_⟩⟩
  · show ((z.cps.toList.map fun c => D.str ⟨#[c]⟩))[i]? = _
    rw [List.getElem?_map, Array.getElem?_toList, e1]
    rfl
  · rw [e2]
    refine .str _ ?_
    unfold PyData.strOk at hz ⊢
    rw [← Array.all_toList, List.all_eq_true] at hz
    have := hz c (List.mem_of_getElem? (by rw [Array.getElem?_toList]; exact e1))
    simpa using this
theorem upI_get : ∀ (n : Nat) (m : Int) (i : Nat), i < n → (upI m n)[i]? = some (.int (m + i))
  | 0, _, _, h => absurd h (Nat.not_lt_zero _)
  | n + 1, m, 0, _ => by
    show some (D.int m) = _
    simp
  | n + 1, m, i + 1, h => by
    show (upI (m + 1) n)[i]? = _
    rw [upI_get n (m + 1) i (Nat.lt_of_succ_lt_succ h)]
    congr 2
    push_cast
    omega
theorem upI_length : ∀ (n : Nat) (m : Int), (upI m n).length = n
  | 0, _ => rfl
  | n + 1, m => by
    show (upI (m + 1) n).length + 1 = n + 1
    rw [upI_length]
theorem wk_rng {m : Int} {n : Nat} : Wk (Itr m n) (upI m n) w H := by
  refine ⟨fun i hi => by rw [upI_length] at hi; exact hi, by rw [upI_length]; exact Nat.le_refl _, fun i v H' hi ⟨e, e2⟩ => ⟨e, .int (m + i), ?_, ?_⟩⟩
  · rw [upI_length] at hi
    exact upI_get n m i hi
  · rw [e2]
    exact .int _
/-- a list, a tuple or a text -/
def iAny (K : PySem.W.Frag) (te : TE) : TI := fun σ H R => iList K te σ H R ∨ iTup K te σ H R ∨ iStr te σ H R
theorem pi_any {X : Cx} {tg e : Expr} {te : TE} (h : PE X e te) : PI X tg e (iAny X.K te) := PI.or (pi_list h) (PI.or (pi_tup h) (pi_str h))
theorem wp_out (m : R α) : (∃ a s', m = .ok a s') ∨ (∃ c h, m = .ex c h) ∨ m = .bad := by
  cases m with
  | ok a s => exact .inl ⟨a, s, rfl⟩
  | ex c h => exact .inr (.inl ⟨c, h, rfl⟩)
  | bad => exact .inr (.inr rfl)
theorem tS_of {ow : Bool} {m : M Av} {R : It → Hp → Prop} (h : tS F W ow (bind m fun a => see fun s => walkAv ow s a) σ H R) : iAny K (tAv F W m) σ H R := by
  obtain ⟨w, s, r, h⟩ := h
  have h := wp_bind h
  rcases wp_out (m s) with ⟨a, s', e⟩ | ⟨c, g, e⟩ | e
  · rw [e] at h
    obtain ⟨xs, e1, q⟩ := wp_see h
    cases a with
    | sl i =>
      have e1 : (if ow then (match slot s' i with | some (.ol xs) => some xs | _ => none) else none) = some xs := e1
      cases ow with
      | false => cases e1
      | true =>
        have e1 : (match slot s' i with | some (.ol xs) => some xs | _ => none) = some xs := e1
        cases e2 : slot s' i with
        | none => rw [e2] at e1; cases e1
        | some t =>
          rw [e2] at e1
          cases t with
          | d _ => cases e1
          | ol ys =>
            cases e1
            have e3 := slot_some e2
            refine .inl ⟨w, s, r, ?_⟩
            rw [e]
            intro w1 H1 v a1 ok n
            have ok : σ[i]? = some (some v) := ok
            obtain ⟨v', e4, p, vs, e5, hp, rs, _⟩ := a1.rel.sl i _ e3
            rw [ok] at e4
            cases e4
            subst e5
            refine ⟨p, rfl, ⟨vs, .inl (.inl hp)⟩, q w1 H1 _ a1 fun w2 s2 σ2 H2 b hb => ?_⟩
            obtain ⟨b1, b2⟩ := hb rfl
            obtain ⟨v', e6, p', vs', e7, hp', rs', _⟩ := b.rel.sl i _ (by rw [b1]; exact e3)
            rw [b2, ok] at e6
            cases e6
            cases e7
            exact wk_list hp' rs'
    | t t =>
      have e1 : walkOf s'.hp t = some xs := e1
      cases t with
      | ol ys =>
        cases e1
        refine .inl ⟨w, s, r, ?_⟩
        rw [e]
        intro w1 H1 v a1 ok n
        have ok : Val w1 s'.sl σ H1 v (.ol xs) := ok
        obtain ⟨p, vs, rfl, hp, rs, hi, hm⟩ := ok.rt
        refine ⟨p, rfl, ⟨vs, .inl (.inl hp)⟩, q w1 H1 _ a1 fun w2 s2 σ2 H2 b hb => ?_⟩
        obtain ⟨h2, _, _⟩ := b.fr p _ hp (fun _ z => nomatch z) hi hm (ok.fresh rfl p rfl)
        exact wk_list h2 (RVs.mono b.le rs)
      | d d =>
        cases d with
        | str z =>
          cases e1
          refine .inr (.inr ⟨w, s, r, ?_⟩)
          rw [e]
          intro w1 H1 v a1 ok n
          have ok : Val w1 s'.sl σ H1 v (.d (.str z)) := ok
          cases ok.rt with
          | str _ hz => exact ⟨z, rfl, q w1 H1 _ a1 fun w2 s2 σ2 H2 b hb => wk_str hz⟩
        | tup ys =>
          cases e1
          refine .inr (.inl ⟨w, s, r, ?_⟩)
          rw [e]
          intro w1 H1 v a1 ok n
          have ok : Val w1 s'.sl σ H1 v (.d (.tup xs)) := ok
          cases ok.rt with
          | tup hI rs => exact ⟨_, rfl, ⟨_, .inl (.inl (a1.rel.same _ _ hI))⟩, q w1 H1 _ a1 fun w2 s2 σ2 H2 b hb => wk_tup (b.rel.same _ _ (b.le.same _ _ hI)) (RVs.mono b.le rs)⟩
        | lst ys =>
          cases e1
          refine .inl ⟨w, s, r, ?_⟩
          rw [e]
          intro w1 H1 v a1 ok n
          have ok : Val w1 s'.sl σ H1 v (.d (.lst xs)) := ok
          cases ok.rt with
          | lst hI rs => exact ⟨_, rfl, ⟨_, .inl (.inl (a1.rel.same _ _ hI))⟩, q w1 H1 _ a1 fun w2 s2 σ2 H2 b hb => wk_list (b.rel.same _ _ (b.le.same _ _ hI)) (RVs.mono b.le rs)⟩
        | scr ys =>
          cases e1
          refine .inl ⟨w, s, r, ?_⟩
          rw [e]
          intro w1 H1 v a1 ok n
          have ok : Val w1 s'.sl σ H1 v (.d (.scr xs)) := ok
          cases ok.rt with
          | scr hI rs => exact ⟨_, rfl, ⟨_, .inl (Rd.same a1.rel.same hI)⟩, q w1 H1 _ a1 fun w2 s2 σ2 H2 b hb => wk_scr (Rd.same b.rel.same (Rd.same b.le.same hI)) (RVs.mono b.le rs)⟩
        | _ => cases e1
  · exact .inl ⟨w, s, r, by rw [e] at h ⊢; exact h⟩
  · rw [e] at h
    exact h.elim

theorem rangeT_some {a b : T} {xs : List D} (h : rangeT a b = some xs) : ∃ m n, a = .d (.int m) ∧ b = .d (.int n) ∧ -(big : Int) < m ∧ m < big ∧ -(big : Int) < n ∧ n < big ∧ xs = upI m (n - m).toNat := by
  unfold rangeT at h
  split at h
  · rename_i m n
    split at h
    · rename_i hc
      cases h
      exact ⟨m, n, rfl, rfl, hc.1, hc.2.1, hc.2.2.1, hc.2.2.2, rfl⟩
    · cases h
  · cases h
theorem big62 : (big : Int) < 2 ^ 62 := by rw [big_eq]; decide
theorem tS_range {ow : Bool} {m : M T} {R : It → Hp → Prop} (h : tS F W ow (bind m fun t => lift (rangeT (.d (.int 0)) t)) σ H R) : iRng1 (tCons (tE F W m) tNil) σ H R := by
  obtain ⟨w, s, r, h⟩ := h
  refine ⟨w, s, r, wp_mono (wp_bind h) (fun t s1 _ q => ?_) fun _ _ e => e⟩
  intro w1 H1 v a1 val hn
  obtain ⟨xs, e, k⟩ := wp_lift q
  obtain ⟨m, n, e1, e2, h1, h2, h3, h4, rfl⟩ := rangeT_some e
  cases e1
  subst e2
  cases val.rt
  have hb := big62
  refine ⟨n, rfl, by omega, by omega, k w1 H1 _ a1 fun w2 s2 σ2 H2 b hb => ?_⟩
  have e0 : (n - 0).toNat = n.toNat := by simp
  rw [e0]
  exact wk_rng
theorem tS_range2 {ow : Bool} {m m' : M T} {R : It → Hp → Prop} (h : tS F W ow (bind m fun t => bind m' fun u => lift (rangeT t u)) σ H R) : iRng2 (tCons (tE F W m) (tCons (tE F W m') tNil)) σ H R := by
  obtain ⟨w, s, r, h⟩ := h
  refine ⟨w, s, r, wp_mono (wp_bind h) (fun t s1 _ q => ?_) fun _ _ e => e⟩
  intro w1 H1 v a1 val hn
  refine ⟨w1, s1, a1.rel, wp_mono (wp_bind q) (fun u s2 _ q => ?_) fun _ _ e => e.from a1⟩
  intro w2 H2 v2 a2 val2 hn2
  obtain ⟨xs, e, k⟩ := wp_lift q
  obtain ⟨m, n, e1, e2, h1, h2, h3, h4, rfl⟩ := rangeT_some e
  subst e1
  subst e2
  cases val.rt
  cases val2.rt
  have hb := big62
  exact ⟨m, n, rfl, ⟨by omega, by omega, by omega, by omega⟩, k w2 H2 _ (a1.trans a2) fun w2 s2 σ2 H2 b hb => wk_rng⟩

/-! ### targets -/
mutual
def gR (K : PySem.W.Frag) : G → TG
  | .nm i => gName i
  | .tup gs => gTup K gs.length (gRs K gs)
def gRs (K : PySem.W.Frag) : List G → TGs
  | [] => gNil
  | g :: gs => gCons (gR K g) (gRs K gs)
end
/-- a value is stored -/
theorem At.put (b : At F.T0 w s σ H w1 s1 σ1 H1) (q : Val w1 s1.sl σ1 H1 v t) (n : NewT s.sl σ H v t) {i : Nat} (hi : i < s1.sl.length) : At F.T0 w s σ H w1 (setSl s1 i (some t)) (σ1.set i (some v)) H1 := by
  have r := b.rel
  have hσ : i < σ1.length := by rw [← r.len]; exact hi
  have at_ : ∀ (j : Nat) (u : T), (s1.sl.set i (some t))[j]? = some (some u) → (j = i ∧ u = t) ∨ (j ≠ i ∧ s1.sl[j]? = some (some u)) := fun j u z => by
    by_cases hj : i = j
    · subst hj
      rw [List.getElem?_set_self hi] at z
      cases z
      exact .inl ⟨rfl, rfl⟩
    · rw [List.getElem?_set_ne hj] at z
      exact .inr ⟨fun q => hj q.symm, z⟩
  have σn : ∀ j, j ≠ i → (σ1.set i (some v))[j]? = σ1[j]? := fun j hj => List.getElem?_set_ne (fun q => hj q.symm)
  have σi : (σ1.set i (some v))[i]? = some (some v) := List.getElem?_set_self hσ
  refine ⟨b.le, ⟨r.same, ?_, fun j u z => ?_, fun j k a u u' z1 z2 o1 o2 e1 e2 => ?_, r.hp, r.tabs, r.nt⟩, b.fr, b.dom, fun a ⟨j, u, z1, z2, z3⟩ => ?_⟩
  · show (s1.sl.set i (some t)).length = (σ1.set i (some v)).length
    rw [List.length_set, List.length_set]
    exact r.len
  · rcases at_ j u z with ⟨rfl, rfl⟩ | ⟨hj, z⟩
    · exact ⟨v, σi, q.rt⟩
    · rw [σn j hj]
      exact r.sl j u z
  · rcases at_ j u z1 with ⟨rfl, rfl⟩ | ⟨hj, y1⟩
    · rcases at_ k u' z2 with ⟨rfl, rfl⟩ | ⟨hk, y2⟩
      · rfl
      · rw [σi] at e1
        rw [σn k hk] at e2
        exact absurd ⟨k, u', y2, o2, e2⟩ (q.fresh o1 a (Option.some.inj (Option.some.inj e1)))
    · rcases at_ k u' z2 with ⟨rfl, rfl⟩ | ⟨hk, y2⟩
      · rw [σi] at e2
        rw [σn j hj] at e1
        exact absurd ⟨j, u, y1, o1, e1⟩ (q.fresh o2 a (Option.some.inj (Option.some.inj e2)))
      · rw [σn j hj] at e1
        rw [σn k hk] at e2
        exact r.dis j k a u u' y1 y2 o1 o2 e1 e2
  · rcases at_ j u z1 with ⟨rfl, rfl⟩ | ⟨hj, y⟩
    · rw [σi] at z3
      exact n z2 a (Option.some.inj (Option.some.inj z3))
    · rw [σn j hj] at z3
      exact b.own a ⟨j, u, y, z2, z3⟩
/-- what a store does to the slots -/
inductive Sto : List Nat → S → S → L2.St → L2.St → Prop where
  | nil {s : S} {σ : L2.St} : Sto [] s s σ σ
  | cons {i : Nat} {is : List Nat} {s s' : S} {σ σ' : L2.St} {t : T} {v : V} : Sto is (setSl s i (some t)) s' (σ.set i (some v)) σ' → Sto (i :: is) s s' σ σ'
theorem Sto.app {a b : List Nat} {s1 s2 s3 : S} {σ1 σ2 σ3 : L2.St} (h : Sto a s1 s2 σ1 σ2) (k : Sto b s2 s3 σ2 σ3) : Sto (a ++ b) s1 s3 σ1 σ3 := by
  induction h with
  | nil => exact k
  | cons _ ih => exact .cons (ih k)
mutual
def G.names : G → List Nat
  | .nm i => [i]
  | .tup gs => Gs.names gs
def Gs.names : List G → List Nat
  | [] => []
  | g :: gs => G.names g ++ Gs.names gs
end
mutual
theorem put_ok : ∀ (g : G) (s1 : S) (σ1 : L2.St) (v : V) (t : T), At F.T0 w s σ H w1 s1 σ1 H1 → Val w1 s1.sl σ1 H1 v t → NewT s.sl σ H v t → ∀ (s2 : S), G.put g t s1 = .ok () s2 →
    ∀ (Q : L2.St → Hp → Prop), (∀ σ2, At F.T0 w s σ H w1 s2 σ2 H1 → Sto g.names s1 s2 σ1 σ2 → Q σ2 H1) → gR K g v σ1 H1 Q
  | .nm i, s1, σ1, v, t, b, q, n, s2, e, Q, h => by
    have e : (if i < s1.sl.length then R.ok () (setSl s1 i (some t)) else .bad) = .ok () s2 := e
    split at e
    · rename_i hi
      cases e
      exact h _ (b.put q n hi) (.cons .nil)
    · cases e
  | .tup gs, s1, σ1, v, t, b, q, n, s2, e, Q, h => by
    cases t with
    | ol _ => cases e
    | d d =>
      cases d with
      | tup xs =>
        have e : G.puts gs xs s1 = .ok () s2 := e
        cases q.rt with
        | tup hI rs =>
          have hl : gs.length = xs.length := puts_len gs xs s1 s2 e
          refine ⟨_, _, rfl, .inl (.inl (b.rel.same _ _ hI)), by rw [rs.length, hl], ?_⟩
          exact puts_ok gs s1 σ1 _ xs b rs s2 e Q h
      | _ => cases e
theorem puts_ok : ∀ (gs : List G) (s1 : S) (σ1 : L2.St) (vs : List V) (xs : List D), At F.T0 w s σ H w1 s1 σ1 H1 → RVs w1 vs xs → ∀ (s2 : S), G.puts gs xs s1 = .ok () s2 →
    ∀ (Q : L2.St → Hp → Prop), (∀ σ2, At F.T0 w s σ H w1 s2 σ2 H1 → Sto (Gs.names gs) s1 s2 σ1 σ2 → Q σ2 H1) → gRs K gs vs σ1 H1 Q
  | [], s1, σ1, vs, xs, b, rs, s2, e, Q, h => by
    cases xs with
    | cons _ _ => cases e
    | nil =>
      cases e
      cases rs
      exact ⟨rfl, h σ1 b .nil⟩
  | g :: gs, s1, σ1, vs, xs, b, rs, s2, e, Q, h => by
    cases xs with
    | nil => cases e
    | cons x xs =>
      cases rs with
      | cons r rs =>
        have e : bind (G.put g (.d x)) (fun _ => G.puts gs xs) s1 = .ok () s2 := e
        unfold bind at e
        cases e1 : G.put g (.d x) s1 with
        | bad => rw [e1] at e; cases e
        | ex _ _ => rw [e1] at e; cases e
        | ok u s3 =>
          rw [e1] at e
          refine ⟨_, _, rfl, put_ok g s1 σ1 _ _ b (Val.d r) NewT.d s3 e1 _ fun σ3 b3 st3 => ?_⟩
          exact puts_ok gs s3 σ3 _ xs b3 rs s2 e Q fun σ2 b2 st2 => h σ2 b2 (st3.app st2)
theorem puts_len : ∀ (gs : List G) (xs : List D) (s1 s2 : S), G.puts gs xs s1 = .ok () s2 → gs.length = xs.length
  | [], [], _, _, _ => rfl
  | [], _ :: _, _, _, e => by cases e
  | _ :: _, [], _, _, e => by cases e
  | g :: gs, x :: xs, s1, s2, e => by
    have e : bind (G.put g (.d x)) (fun _ => G.puts gs xs) s1 = .ok () s2 := e
    unfold bind at e
    cases e1 : G.put g (.d x) s1 with
    | bad => rw [e1] at e; cases e
    | ex _ _ => rw [e1] at e; cases e
    | ok u s3 =>
      rw [e1] at e
      rw [List.length_cons, List.length_cons, puts_len gs xs s3 s2 e]
end

/-! ### within a comprehension no slot changes -/
theorem bind_ok {m : M α} {f : α → M β} {s : S} {b : β} {s' : S} (h : bind m f s = .ok b s') : ∃ a s1, m s = .ok a s1 ∧ f a s1 = .ok b s' := by
  unfold bind at h
  cases e : m s with
  | bad => rw [e] at h; cases h
  | ex _ _ => rw [e] at h; cases h
  | ok a s1 =>
    rw [e] at h
    exact ⟨a, s1, rfl, h⟩
theorem see_ok {f : S → Option α} {s s' : S} {a : α} (h : see f s = .ok a s') : f s = some a ∧ s' = s := by
  unfold see at h
  cases e : f s with
  | none => rw [e] at h; cases h
  | some b =>
    rw [e] at h
    cases h
    exact ⟨rfl, rfl⟩
theorem lift_ok {o : Option α} {s s' : S} {a : α} (h : lift o s = .ok a s') : o = some a ∧ s' = s := by
  cases o with
  | none => cases h
  | some b =>
    cases h
    exact ⟨rfl, rfl⟩
theorem ret_ok {s s' : S} {a b : α} (h : ret a s = .ok b s') : b = a ∧ s' = s := by
  cases h
  exact ⟨rfl, rfl⟩
theorem needD_ok {t : T} {s s' : S} {d : D} (h : needD t s = .ok d s') : d = t.toD ∧ s' = s := by
  cases t <;> (cases h; exact ⟨rfl, rfl⟩)
theorem truthAv_ok {a : Av} {s s' : S} {c : Bool} (h : truthAv a s = .ok c s') : s' = s := (see_ok h).2
theorem runP_ok {p : P} {as : List Av} {s s' : S} {t : T} (h : runP p as s = .ok t s') : s' = s := (see_ok h).2
end
end PL
end
section
set_option linter.all false
set_option maxRecDepth 100000
set_option maxHeartbeats 4000000
/-! PL6: what is done within: lifts; comprehensions. -/
namespace PL
open PySem PySem.Spec PyProof.Rows L2
section
variable {F : Fx} {W : WX} {T0 : List (Addr × Str)} {w w1 w2 w3 w' : Wd} {s s1 s2 s3 s' : S} {σ σ0 σ1 σ2 σ3 σ' : L2.St} {H H1 H2 H3 H' : Hp} {v v' : V} {t t' : T} {K : PySem.W.Frag}

/-! ### no slot changes -/
theorem avOf_ro {e : E} {m : M T} {s s' : S} {a : Av} (hm : ∀ t s', m s = .ok t s' → s'.sl = s.sl) (h : avOf e m s = .ok a s') : s'.sl = s.sl := by
  cases e with
  | var i =>
    rw [avOf_var] at h
    rw [(see_ok h).2]
  | _ =>
    obtain ⟨t, s1, h1, h2⟩ := bind_ok h
    rw [(ret_ok h2).2]
    exact hm _ _ h1
theorem avT_ro {e : E} {m : M T} {s s' : S} {c : Bool} (hm : ∀ t s', m s = .ok t s' → s'.sl = s.sl) (h : bind (avOf e m) truthAv s = .ok c s') : s'.sl = s.sl := by
  obtain ⟨a, s1, h1, h2⟩ := bind_ok h
  rw [truthAv_ok h2]
  exact avOf_ro hm h1
mutual
theorem ev_ro (C : Ctx) : ∀ (e : E) (s s' : S) (t : T), E.ev C true e s = .ok t s' → s'.sl = s.sl
  | .var i, s, s', t, h => by
    rw [(see_ok h).2]
  | .mv i, s, s', t, h => by cases h
  | .pop i, s, s', t, h => by cases h
  | .cst x, s, s', t, h => by rw [(ret_ok h).2]
  | .tup es, s, s', t, h => by
    obtain ⟨ds, s1, h1, h2⟩ := bind_ok h
    rw [(ret_ok h2).2]
    exact evs_ro C es s s1 ds h1
  | .lst es, s, s', t, h => by
    obtain ⟨ds, s1, h1, h2⟩ := bind_ok h
    rw [(ret_ok h2).2]
    exact evs_ro C es s s1 ds h1
  | .hlst es, s, s', t, h => by
    obtain ⟨ds, s1, h1, h2⟩ := bind_ok h
    cases h2
    exact evs_ro C es s s1 ds h1
  | .hdict ks vs, s, s', t, h => by
    obtain ⟨ds, s1, h1, h2⟩ := bind_ok h
    cases h2
    exact evs_ro C vs s s1 ds h1
  | .prim p es, s, s', t, h => by
    obtain ⟨ds, s1, h1, h2⟩ := bind_ok h
    rw [runP_ok h2]
    exact avs_ro C es s s1 ds h1
  | .and_ a b, s, s', t, h => by
    obtain ⟨c, s1, h1, h2⟩ := bind_ok h
    rw [← avT_ro (fun t s' => ev_ro C a s s' t) h1]
    cases c with
    | true => exact ev_ro C b s1 s' t h2
    | false => rw [(ret_ok h2).2]
  | .or_ a b, s, s', t, h => by
    obtain ⟨c, s1, h1, h2⟩ := bind_ok h
    rw [← avT_ro (fun t s' => ev_ro C a s s' t) h1]
    cases c with
    | false => exact ev_ro C b s1 s' t h2
    | true => rw [(ret_ok h2).2]
  | .not_ a, s, s', t, h => by
    obtain ⟨c, s1, h1, h2⟩ := bind_ok h
    rw [(ret_ok h2).2]
    exact avT_ro (fun t s' => ev_ro C a s s' t) h1
  | .ite c a b, s, s', t, h => by
    obtain ⟨c', s1, h1, h2⟩ := bind_ok h
    rw [← avT_ro (fun t s' => ev_ro C c s s' t) h1]
    cases c' with
    | true => exact ev_ro C a s1 s' t h2
    | false => exact ev_ro C b s1 s' t h2
  | .chain p q a b c, s, s', t, h => by
    obtain ⟨x, s1, h1, h2⟩ := bind_ok h
    obtain ⟨y, s2, h3, h4⟩ := bind_ok h2
    obtain ⟨r, s3, h5, h6⟩ := bind_ok h4
    rw [← avOf_ro (fun t s' => ev_ro C a s s' t) h1, ← avOf_ro (fun t s' => ev_ro C b s1 s' t) h3]
    have e5 := runP_ok h5
    subst e5
    split at h6
    · obtain ⟨z, s4, h7, h8⟩ := bind_ok h6
      rw [runP_ok h8]
      exact avOf_ro (fun t s' => ev_ro C c s3 s' t) h7
    · rw [(ret_ok h6).2]
    · cases h6
  | .call f es, s, s', t, h => by
    obtain ⟨ds, s1, h1, h2⟩ := bind_ok h
    rw [← evs_ro C es s s1 ds h1]
    split at h2
    · cases h2; rfl
    · cases h2
    · cases h2
  | .comp own sr g e, s, s', t, h => by
    obtain ⟨xs, s1, h1, h2⟩ := bind_ok h
    rw [← src_ro C sr true s s1 xs h1]
    split at h2
    · cases h2
    · split at h2
      · cases h2; rfl
      · cases h2
  | .compIf own sr g c e, s, s', t, h => by
    obtain ⟨xs, s1, h1, h2⟩ := bind_ok h
    rw [← src_ro C sr true s s1 xs h1]
    split at h2
    · cases h2
    · split at h2
      · cases h2; rfl
      · cases h2
  | .tried k e, s, s', t, h => by
    have h : (match C.hd k with
      | none => R.bad
      | some hh => match E.ev C true e ⟨hide s.sl, s.hp⟩ with
        | R.ok (T.d x) s' => R.ok (T.d (match hh.onOk with | some y => y | none => x)) ⟨s.sl, s'.hp⟩
        | R.ex c hp => if c = hh.exc then R.ok (T.d hh.onEx) ⟨s.sl, hp⟩ else R.bad
        | _ => R.bad) = R.ok t s' := h
    split at h
    · cases h
    · split at h
      · cases h; rfl
      · split at h
        · cases h; rfl
        · cases h
      · cases h
theorem evs_ro (C : Ctx) : ∀ (es : List E) (s s' : S) (ds : List D), E.evs C true es s = .ok ds s' → s'.sl = s.sl
  | [], s, s', ds, h => by rw [(ret_ok h).2]
  | e :: es, s, s', ds, h => by
    obtain ⟨t, s1, h1, h2⟩ := bind_ok h
    obtain ⟨d, s2, h3, h4⟩ := bind_ok h2
    obtain ⟨r, s3, h5, h6⟩ := bind_ok h4
    rw [(ret_ok h6).2, evs_ro C es s2 s3 r h5, (needD_ok h3).2]
    exact ev_ro C e s s1 t h1
theorem avs_ro (C : Ctx) : ∀ (es : List E) (s s' : S) (ds : List Av), E.avs C true es s = .ok ds s' → s'.sl = s.sl
  | [], s, s', ds, h => by rw [(ret_ok h).2]
  | e :: es, s, s', ds, h => by
    obtain ⟨t, s1, h1, h2⟩ := bind_ok h
    obtain ⟨r, s3, h5, h6⟩ := bind_ok h2
    rw [(ret_ok h6).2, avs_ro C es s1 s3 r h5]
    exact avOf_ro (fun t s' => ev_ro C e s s' t) h1
theorem src_ro (C : Ctx) : ∀ (sr : Src) (ow : Bool) (s s' : S) (xs : List D), Src.ev C true ow sr s = .ok xs s' → s'.sl = s.sl
  | .of e, ow, s, s', xs, h => by
    obtain ⟨a, s1, h1, h2⟩ := bind_ok h
    rw [(see_ok h2).2]
    exact avOf_ro (fun t s' => ev_ro C e s s' t) h1
  | .range e, ow, s, s', xs, h => by
    obtain ⟨a, s1, h1, h2⟩ := bind_ok h
    rw [(lift_ok h2).2]
    exact ev_ro C e s s1 a h1
  | .range2 a b, ow, s, s', xs, h => by
    obtain ⟨x, s1, h1, h2⟩ := bind_ok h
    obtain ⟨y, s2, h3, h4⟩ := bind_ok h2
    rw [(lift_ok h4).2, ev_ro C b s1 s2 y h3]
    exact ev_ro C a s s1 x h1
end
theorem ev_ro' {C : Ctx} {e : E} {s s' : S} {t : T} (h : E.ev C true e s = .ok t s') : s'.sl = s.sl := ev_ro C e s s' t h

/-! ### lifts -/
theorem Own.sub {sl sl0 : List (Option T)} (h : ∀ (i : Nat) (t : T), sl0[i]? = some (some t) → sl[i]? = some (some t) ∧ σ0[i]? = σ[i]?) {a : Addr} (o : Own sl0 σ0 a) : Own sl σ a := by
  obtain ⟨i, t, e1, e2, e3⟩ := o
  obtain ⟨q1, q2⟩ := h i t e1
  exact ⟨i, t, q1, e2, by rw [← q2]; exact e3⟩
/-- done with fewer slots: the slots that are not seen stay -/
theorem At.lift (r : Rel T0 w s σ H) {sl0 : List (Option T)} (b : At T0 w ⟨sl0, s.hp⟩ σ0 H w' s' σ' H') (hs : ∀ (i : Nat) (t : T), sl0[i]? = some (some t) → s.sl[i]? = some (some t) ∧ σ0[i]? = σ[i]?)
    (hk : ∀ (i : Nat) (t : T), s.sl[i]? = some (some t) → isOwn t = true → (s'.sl[i]? = some (some t) ∧ σ'[i]? = σ[i]?) ∨ (∀ u, sl0[i]? ≠ some (some u))) : At T0 w s σ H w' ⟨s.sl, s'.hp⟩ σ H' := by
  refine ⟨b.le, ⟨b.rel.same, r.len, fun i t e => ?_, r.dis, b.rel.hp, b.rel.tabs, b.rel.nt⟩, fun a o h hn hi hm ho => b.fr a o h hn hi hm fun z => ho (Own.sub hs z), b.dom, fun a o => .inl o⟩
  obtain ⟨v, e1, q⟩ := r.sl i t e
  refine ⟨v, e1, ?_⟩
  cases t with
  | d x => exact RV.mono b.le q
  | ol xs =>
    rcases hk i _ e rfl with ⟨k1, k2⟩ | k
    · obtain ⟨v', e2, q'⟩ := b.rel.sl i _ k1
      rw [k2, e1] at e2
      cases e2
      exact q'
    · obtain ⟨a, vs, ev, h, rs, hi, hm⟩ := q
      have no : ¬ Own sl0 σ0 a := fun ⟨j, u, z1, z2, z3⟩ => by
        obtain ⟨y1, y2⟩ := hs j u z1
        have := r.dis j i a u _ y1 e z2 rfl (by rw [← y2]; exact z3) (by rw [e1, ev])
        subst this
        exact k u z1
      obtain ⟨h1, i1, m1⟩ := b.fr a _ h (fun _ z => nomatch z) hi hm no
      exact ⟨a, vs, ev, h1, RVs.mono b.le rs, i1, m1⟩
/-- a thing that is ours alone is changed -/
theorem At.poke (b : At T0 w s σ H w1 s1 σ1 H1) {D : Addr} {o0 o : HO} (h0 : H D = none) (h1 : H1 D = some o0) (n1 : ∀ ps, o0 ≠ .tbl ps) (n2 : ∀ f, o0 ≠ .ext f) (hi : w1.I D = none) (hm : D ∉ w1.ι) (ho : ¬ Own s1.sl σ1 D) : At T0 w s σ H w1 s1 σ1 (upd H1 D o) := by
  have r := b.rel
  have ne : ∀ {a : Addr} {x : HO}, H1 a = some x → x ≠ o0 → a ≠ D := fun e n z => by
    subst z
    rw [h1] at e
    cases e
    exact n rfl
  refine ⟨b.le, ⟨fun a x e => ?_, r.len, fun i t e => ?_, r.dis, ⟨r.hp.len, r.hp.nd, fun n x e => ?_⟩, fun p hp => ?_, r.nt⟩, fun a x e n i m no => ?_, fun a e => ?_, b.own⟩
  · rw [upd_ne (ne_of_none e hi)]
    exact r.same _ _ e
  · obtain ⟨v, e1, q⟩ := r.sl i t e
    refine ⟨v, e1, ?_⟩
    cases t with
    | d x => exact q
    | ol xs =>
      obtain ⟨a, us, ev, h, q⟩ := q
      have : a ≠ D := fun z => ho ⟨i, _, e, rfl, by rw [e1, ev, z]⟩
      exact ⟨a, us, ev, by rw [upd_ne this]; exact h, q⟩
  · obtain ⟨a, e1, e2, q⟩ := r.hp.at_ n x e
    refine ⟨a, e1, e2, ?_⟩
    have : a ≠ D := fun z => hm (by rw [← z]; exact List.mem_of_getElem? e1)
    cases x with
    | dct kvs =>
      obtain ⟨ks, e3, q⟩ := q
      exact ⟨ks, by rw [upd_ne this]; exact e3, q⟩
    | lst xs =>
      obtain ⟨ks, e3, q⟩ := q
      exact ⟨ks, by rw [upd_ne this]; exact e3, q⟩
  · obtain ⟨ps, e1, e2, e3⟩ := r.tabs p hp
    refine ⟨ps, by rw [upd_ne (ne e1 fun z => n1 _ z.symm)]; exact e1, e2, fun pos cv hc => ?_⟩
    obtain ⟨c, ec, hc⟩ := e3 pos cv hc
    exact ⟨c, ec, by rw [upd_ne (ne hc fun z => n2 _ z.symm)]; exact hc⟩
  · obtain ⟨e1, e2⟩ := b.fr a x e n i m no
    refine ⟨?_, e2⟩
    rw [upd_ne (ne_of_none e h0)]
    exact e1
  · by_cases z : a = D
    · subst z
      exact gone_none h0
    · refine b.dom a fun x q => e x ?_
      rw [upd_ne z]
      exact q
/-- a thing that is ours alone becomes one that changes -/
theorem At.adopt (b : At T0 w s σ H w1 s1 σ1 H1) {a : Addr} {o : HO} {x : AO} (h0 : H a = none) (h1 : H1 a = some o) (hi : w1.I a = none) (hm : a ∉ w1.ι) (ho : ¬ Own s1.sl σ1 a) (r : RO w1 H1 a x) :
    At T0 w s σ H ⟨w1.I, w1.ι ++ [a]⟩ ⟨s1.sl, s1.hp ++ [x]⟩ σ1 H1 ∧ RV ⟨w1.I, w1.ι ++ [a]⟩ (.ref a) (.ref s1.hp.length) ∧ Le w1 ⟨w1.I, w1.ι ++ [a]⟩ := by
  have l : Le w1 ⟨w1.I, w1.ι ++ [a]⟩ := ⟨Same.refl _, [a], rfl⟩
  have r2 := b.rel
  refine ⟨⟨b.le.trans l, ⟨r2.same, r2.len, fun i t e => ?_, r2.dis, ⟨?_, ?_, fun n y e => ?_⟩, r2.tabs, r2.nt⟩, fun y u e n i m no => ?_, b.dom, b.own⟩, .ref ?_, l⟩
  · obtain ⟨v, e1, q⟩ := r2.sl i t e
    refine ⟨v, e1, ?_⟩
    cases t with
    | d x => exact RV.mono l q
    | ol xs =>
      obtain ⟨c, vs, e2, e3, e4, e5, e6⟩ := q
      refine ⟨c, vs, e2, e3, RVs.mono l e4, e5, fun z => ?_⟩
      rcases List.mem_append.mp z with z | z
      · exact e6 z
      · have : c = a := by simpa using z
        subst this
        exact ho ⟨i, _, e, rfl, by rw [e1, e2]⟩
  · show (w1.ι ++ [a]).length = (s1.hp ++ [x]).length
    rw [List.length_append, List.length_append, r2.hp.len]
    rfl
  · refine List.nodup_append.mpr ⟨r2.hp.nd, by simp, fun y hy z hz => ?_⟩
    have : z = a := by simpa using hz
    subst this
    intro q
    subst q
    exact hm hy
  · have e : (s1.hp ++ [x])[n]? = some y := e
    by_cases hn : n < s1.hp.length
    · rw [List.getElem?_append_left hn] at e
      obtain ⟨c, e1, e2, q⟩ := r2.hp.at_ n y e
      refine ⟨c, ?_, e2, q.mono l⟩
      show (w1.ι ++ [a])[n]? = some c
      rw [List.getElem?_append_left (by rw [r2.hp.len]; exact hn)]
      exact e1
    · have hn2 : n = s1.hp.length := by
        have := (List.getElem?_eq_some_iff.mp e).1
        rw [List.length_append] at this
        simp at this
        omega
      subst hn2
      rw [List.getElem?_append_right (Nat.le_refl _)] at e
      simp at e
      subst e
      refine ⟨a, ?_, hi, r.mono l⟩
      show (w1.ι ++ [a])[s1.hp.length]? = some a
      rw [← r2.hp.len, List.getElem?_append_right (Nat.le_refl _)]
      simp
  · obtain ⟨e1, e2, e3⟩ := b.fr y u e n i m no
    refine ⟨e1, e2, fun z => ?_⟩
    rcases List.mem_append.mp z with z | z
    · exact e3 z
    · have : y = a := by simpa using z
      subst this
      rw [h0] at e
      cases e
  · rw [← r2.hp.len]
    simp

/-! ### wiped slots -/
theorem wipe_len (sl : List (Option T)) : ∀ vs : List Nat, (wipe sl vs).length = sl.length
  | [] => rfl
  | v :: vs => by
    show ((wipe sl vs).set v none).length = _
    rw [List.length_set, wipe_len sl vs]
theorem wipe_out {sl : List (Option T)} {i : Nat} : ∀ {vs : List Nat}, i ∉ vs → (wipe sl vs)[i]? = sl[i]?
  | [], _ => rfl
  | v :: vs, h => by
    show ((wipe sl vs).set v none)[i]? = _
    rw [List.getElem?_set_ne (fun z => h (by rw [z]; exact List.mem_cons_self)), wipe_out fun z => h (List.mem_cons_of_mem _ z)]
theorem wipe_in {sl : List (Option T)} {i : Nat} : ∀ {vs : List Nat}, i ∈ vs → ∀ u, (wipe sl vs)[i]? ≠ some (some u)
  | v :: vs, h, u, e => by
    have e : ((wipe sl vs).set v none)[i]? = some (some u) := e
    by_cases hv : v = i
    · subst hv
      by_cases hl : v < (wipe sl vs).length
      · rw [List.getElem?_set_self hl] at e; cases e
      · rw [List.getElem?_eq_none (by simpa using hl)] at e; cases e
    · rw [List.getElem?_set_ne hv] at e
      rcases List.mem_cons.mp h with z | z
      · exact hv z.symm
      · exact wipe_in z u e
theorem wipeV_out {σ : L2.St} {i : Nat} : ∀ {vs : List Nat}, i ∉ vs → (L2.wipe σ vs)[i]? = σ[i]?
  | [], _ => rfl
  | v :: vs, h => by
    show ((L2.wipe σ vs).set v none)[i]? = _
    rw [List.getElem?_set_ne (fun z => h (by rw [z]; exact List.mem_cons_self)), wipeV_out fun z => h (List.mem_cons_of_mem _ z)]
theorem wipe_sub {sl : List (Option T)} {σ : L2.St} {vs : List Nat} (i : Nat) (t : T) (h : (wipe sl vs)[i]? = some (some t)) : sl[i]? = some (some t) ∧ (L2.wipe σ vs)[i]? = σ[i]? := by
  by_cases hi : i ∈ vs
  · exact absurd h (wipe_in hi t)
  · rw [wipe_out hi] at h
    exact ⟨h, wipeV_out hi⟩
/-- fewer slots -/
theorem Rel.fewer (r : Rel T0 w s σ H) {sl0 : List (Option T)} (hl : sl0.length = σ0.length) (hs : ∀ (i : Nat) (t : T), sl0[i]? = some (some t) → s.sl[i]? = some (some t) ∧ σ0[i]? = σ[i]?) : Rel T0 w ⟨sl0, s.hp⟩ σ0 H := by
  refine ⟨r.same, hl, fun i t e => ?_, fun i j a t u z1 z2 o1 o2 e1 e2 => ?_, r.hp, r.tabs, r.nt⟩
  · obtain ⟨q1, q2⟩ := hs i t e
    obtain ⟨v, e1, q⟩ := r.sl i t q1
    exact ⟨v, by rw [q2]; exact e1, q⟩
  · obtain ⟨q1, q2⟩ := hs i t z1
    obtain ⟨q3, q4⟩ := hs j u z2
    exact r.dis i j a t u q1 q3 o1 o2 (by rw [← q2]; exact e1) (by rw [← q4]; exact e2)
theorem set_wipe {σ : L2.St} {i : Nat} {v : V} : ∀ {vs : List Nat}, i ∈ vs → L2.wipe (σ.set i (some v)) vs = L2.wipe σ vs := by
  intro vs hi
  apply List.ext_getElem?
  intro j
  by_cases hj : j ∈ vs
  · have key : ∀ (τ : L2.St) (us : List Nat), j ∈ us → (L2.wipe τ us)[j]? = if j < τ.length then some none else none := by
      intro τ us hu
      induction us with
      | nil => cases hu
      | cons u us ih =>
        show ((L2.wipe τ us).set u none)[j]? = _
        by_cases hv : u = j
        · subst hv
          by_cases hl : u < τ.length
          · rw [List.getElem?_set_self (by rw [L2.wipe_length]; exact hl), if_pos hl]
          · rw [List.getElem?_eq_none (by rw [List.length_set, L2.wipe_length]; omega), if_neg hl]
        · rw [List.getElem?_set_ne hv]
          rcases List.mem_cons.mp hu with z | z
          · exact absurd z.symm hv
          · exact ih z
    rw [key _ _ hj, key _ _ hj, List.length_set]
  · rw [wipeV_out hj, wipeV_out hj]
    by_cases hij : i = j
    · subst hij
      exact absurd hi hj
    · rw [List.getElem?_set_ne hij]
/-- a store of the block's own names -/
theorem Sto.keeps {is own : List Nat} (h : Sto is s s1 σ σ1) (hn : ∀ i ∈ is, i ∈ own) : s1.hp = s.hp ∧ L2.wipe σ1 own = L2.wipe σ own ∧ ∀ i, i ∉ own → s1.sl[i]? = s.sl[i]? ∧ σ1[i]? = σ[i]? := by
  induction h with
  | nil => exact ⟨rfl, rfl, fun _ _ => ⟨rfl, rfl⟩⟩
  | @cons i is s s' σ σ' t v _ ih =>
    obtain ⟨e1, e2, e3⟩ := ih fun j hj => hn j (List.mem_cons_of_mem _ hj)
    have hi : i ∈ own := hn i List.mem_cons_self
    refine ⟨e1, by rw [e2, set_wipe hi], fun j hj => ?_⟩
    have : i ≠ j := fun z => hj (by rw [← z]; exact hi)
    obtain ⟨a, b⟩ := e3 j hj
    refine ⟨?_, ?_⟩
    · rw [a]
      show (s.sl.set i (some t))[j]? = _
      rw [List.getElem?_set_ne this]
    · rw [b, List.getElem?_set_ne this]

/-! ### comprehensions -/
/-- nothing is let out -/
abbrev W0 : WX := fun _ _ _ _ => False
/-- a turn: an item, or none -/
def tO (F : Fx) (m : M (Option D)) (σ : L2.St) (H : Hp) (Q1 : V → Hp → Prop) (Q0 : Hp → Prop) : Prop := ∃ w s, Rel F.T0 w s σ H ∧
  wp (m s) (fun o s' => ∀ w' H', At F.T0 w s σ H w' s' σ H' → match o with
    | some d => ∀ v, RV w' v d → Q1 v H'
    | none => Q0 H') (fun _ _ => False)
/-- the readings tt, te of the block are what a turn is -/
def TurnOk (F : Fx) (m : M (Option D)) (tt : TT) (te : TE) : Prop :=
  ∀ σ H Q1 Q0, tO F m σ H Q1 Q0 → tt σ H fun b H3 => if b = true then te σ H3 Q1 else Q0 H3
theorem turn_comp {C : Ctx} {e : E} : TurnOk F (bind (E.ev C true e) fun t => bind (needD t) fun d => ret (some d)) tYes (tE F W0 (E.ev C true e)) := by
  intro σ H Q1 Q0 ⟨w, s, r, h⟩
  show tE F W0 (E.ev C true e) σ H Q1
  refine ⟨w, s, r, wp_mono (wp_bind h) (fun t s1 _ q => ?_) fun _ _ e => e.elim⟩
  intro w1 H1 v a1 val n
  have q := wp_needD (wp_bind q)
  obtain ⟨w2, a2, _, r2, _⟩ := a1.freeze val n
  exact q w2 H1 a2 v r2
theorem turn_compIf {C : Ctx} {c e : E} : TurnOk F (bind (bind (avOf c (E.ev C true c)) truthAv) fun b => if b then bind (E.ev C true e) fun t => bind (needD t) fun d => ret (some d) else ret none)
    (tB F W0 (bind (avOf c (E.ev C true c)) truthAv)) (tE F W0 (E.ev C true e)) := by
  intro σ H Q1 Q0 ⟨w, s, r, h⟩
  refine ⟨w, s, r, wp_mono (wp_bind h) (fun b s1 _ q => ?_) fun _ _ e => e.elim⟩
  intro w1 H1 a1
  cases b with
  | false => exact q w1 H1 a1
  | true =>
    refine ⟨w1, s1, a1.rel, wp_mono (wp_bind q) (fun t s2 _ q => ?_) fun _ _ e => e.elim⟩
    intro w2 H2 v a2 val n
    have q := wp_needD (wp_bind q)
    obtain ⟨w3, a3, _, r3, _⟩ := a2.freeze val n
    exact q w3 H2 (a1.trans a3) v r3
theorem wp_turns {sl : List (Option T)} {f : D → M (Option D)} {x : D} {xs : List D} {h : Hs} {Φ : List D → S → Prop} {Ψ : Nat → Hs → Prop} (q : wp (turns sl f (x :: xs) h) Φ Ψ) :
    wp (f x ⟨sl, h⟩) (fun o s => wp (turns sl f xs s.hp) (fun r s' => Φ (match o with | some y => y :: r | none => r) s') Ψ) Ψ := by
  unfold turns at q
  cases e : f x ⟨sl, h⟩ with
  | bad => rw [e] at q; exact q
  | ex c h' => rw [e] at q; exact q
  | ok o s =>
    rw [e] at q
    dsimp only at q
    show wp (turns sl f xs s.hp) _ Ψ
    cases e2 : turns sl f xs s.hp with
    | bad => rw [e2] at q; exact q
    | ex c h' => rw [e2] at q; exact q
    | ok r s' => rw [e2] at q; exact q
theorem big_line {n : Nat} (h : n < big) : n < sizeLine := Nat.lt_of_lt_of_le h (by rw [big_eq]; decide)
theorem turns_le {sl : List (Option T)} {f : D → M (Option D)} : ∀ {xs : List D} {h : Hs} {r : List D} {s : S}, turns sl f xs h = .ok r s → r.length ≤ xs.length
  | [], h, r, s, e => by
    cases e
    exact Nat.le_refl _
  | x :: xs, h, r, s, e => by
    unfold turns at e
    cases e1 : f x ⟨sl, h⟩ with
    | bad => rw [e1] at e; cases e
    | ex c h' => rw [e1] at e; cases e
    | ok o s1 =>
      rw [e1] at e
      dsimp only at e
      cases e2 : turns sl f xs s1.hp with
      | bad => rw [e2] at e; cases e
      | ex c h' => rw [e2] at e; cases e
      | ok r2 s2 =>
        rw [e2] at e
        have hl := turns_le e2
        cases e
        cases o with
        | none => exact Nat.le_succ_of_le hl
        | some y => exact Nat.succ_le_succ hl
end
end PL
end
section
set_option linter.all false
set_option maxRecDepth 100000
set_option maxHeartbeats 4000000
/-! PL7: comprehensions, calls, dict displays, chains: the readings. -/
namespace PL
open PySem PySem.Spec PyProof.Rows L2
section
variable {F : Fx} {W : WX} {T0 : List (Addr × Str)} {w w1 w2 w3 w' : Wd} {s s1 s2 s3 s' : S} {σ σ0 σ1 σ2 σ3 σ' : L2.St} {H H1 H2 H3 H' : Hp} {v v' : V} {t t' : T} {K : PySem.W.Frag}

theorem wipeV_in {σ : L2.St} {j : Nat} : ∀ {us : List Nat}, j ∈ us → (L2.wipe σ us)[j]? = if j < σ.length then some none else none
  | u :: us, hu => by
    show ((L2.wipe σ us).set u none)[j]? = _
    by_cases hv : u = j
    · subst hv
      by_cases hl : u < σ.length
      · rw [List.getElem?_set_self (by rw [L2.wipe_length]; exact hl), if_pos hl]
      · rw [List.getElem?_eq_none (by rw [List.length_set, L2.wipe_length]; omega), if_neg hl]
    · rw [List.getElem?_set_ne hv]
      rcases List.mem_cons.mp hu with z | z
      · exact absurd z.symm hv
      · exact wipeV_in z
theorem wipe_wipe {σ : L2.St} {us : List Nat} : L2.wipe (L2.wipe σ us) us = L2.wipe σ us := by
  apply List.ext_getElem?
  intro j
  by_cases hj : j ∈ us
  · rw [wipeV_in hj, wipeV_in hj, L2.wipe_length]
  · rw [wipeV_out hj]

/-! ### comprehensions -/
theorem tLc_ok {own : List Nat} {sr : M (List D)} {g : G} {m : M (Option D)} {tt : TT} {te : TE} (ht : TurnOk F m tt te) (hn : ∀ i ∈ g.names, i ∈ own) (hro : ∀ s o s', m s = .ok o s' → s'.sl = s.sl) {Q : VK}
    (h : tE F W (bind sr fun xs => fun s => if big ≤ xs.length then .bad else match turns (wipe s.sl own) (fun x => bind (G.put g (.d x)) fun _ => m) xs s.hp with
      | .ok ds s' => .ok (.ol ds) ⟨s.sl, s'.hp⟩
      | _ => .bad) σ H Q) : tLc (tS F W true sr) (gR K g) tt te own σ H Q := by
  obtain ⟨w, s, r, h⟩ := h
  refine ⟨w, s, r, wp_mono (wp_bind h) (fun xs s1 _ q => ?_) fun _ _ e => e⟩
  intro w1 H1 J a1 hJ D hD
  have hl : xs.length < big := by
    by_cases z : big ≤ xs.length
    · rw [if_pos z] at q
      exact q.elim
    · omega
  rw [if_neg (by omega)] at q
  generalize hf : (fun x => bind (G.put g (.d x)) fun _ => m) = f at q
  have q' : wp (turns (wipe s1.sl own) f xs s1.hp) (fun ds s' => Fin F w s σ H Q (.ol ds) ⟨s1.sl, s'.hp⟩) (fun _ _ => False) := by
    cases e : turns (wipe s1.sl own) f xs s1.hp with
    | ok ds s' => rw [e] at q; exact q
    | ex c g => rw [e] at q; exact q.elim
    | bad => rw [e] at q; exact q.elim
  obtain ⟨b0, v0, _⟩ := (At.refl a1.rel).lst (a := D) hD (vs := []) (ds := []) .nil
  let P : Nat → Hp → Prop := fun i H' => ∃ wi hi acc ds, At F.T0 w1 s1 σ H1 wi ⟨s1.sl, hi⟩ σ H' ∧ H' D = some (.lst acc) ∧ RVs wi acc ds ∧ wi.I D = none ∧ D ∉ wi.ι ∧ ¬ Own s1.sl σ D ∧ ds.length ≤ i ∧
    wp (turns (wipe s1.sl own) f (xs.drop i) hi) (fun rest s' => Fin F w s σ H Q (.ol (ds ++ rest)) ⟨s1.sl, s'.hp⟩) (fun _ _ => False)
  refine ⟨fun i k H' => k = xs.length - i ∧ i ≤ xs.length ∧ P i H', ⟨xs.length, by omega, Nat.zero_le _, w1, s1.hp, [], [], b0, upd_same, .nil, a1.rel.ne_I hD, a1.rel.ne_ι hD, a1.rel.ne_own (gone_none hD), Nat.le_refl _, q'⟩, ?_⟩
  rintro i k H' ⟨rfl, hi, wi, hi', acc, ds, A, hDa, rs, hDI, hDm, hDo, hlen, q⟩
  have hw : Wk J xs wi H' := hJ wi ⟨s1.sl, hi'⟩ σ H' A fun _ => ⟨rfl, rfl⟩
  by_cases hlt : i < xs.length
  · refine .inr ⟨hw.goes i hlt, P (i + 1), fun H2 p => ⟨xs.length - (i + 1), by omega, rfl, by omega, p⟩, fun y H2 hy => ?_⟩
    obtain ⟨rfl, d, ed, rd⟩ := hw.yields i y H2 hlt hy
    rw [List.drop_eq_getElem_cons hlt] at q
    have exd : xs[i] = d := by
      rw [List.getElem?_eq_getElem hlt] at ed
      exact Option.some.inj ed
    rw [exd] at q
    have q2 := wp_turns q
    subst hf
    have q3 := wp_bind q2
    have r0 : Rel F.T0 wi ⟨wipe s1.sl own, hi'⟩ (L2.wipe σ own) H2 := Rel.fewer (s := ⟨s1.sl, hi'⟩) A.rel (by rw [wipe_len, L2.wipe_length]; exact A.rel.len) wipe_sub
    cases e : G.put g (.d d) ⟨wipe s1.sl own, hi'⟩ with
    | bad => rw [e] at q3; exact q3.elim
    | ex _ _ => rw [e] at q3; exact q3.elim
    | ok u s2 =>
      rw [e] at q3
      have q3 : wp (m s2) _ _ := q3
      refine put_ok g _ _ y (.d d) (At.refl r0) (Val.d rd) NewT.d s2 e _ fun σ2 b2 st => ?_
      obtain ⟨k1, k2, k3⟩ := st.keeps hn
      refine ⟨by rw [k2, wipe_wipe], ?_⟩
      refine ht σ2 H2 _ _ ⟨wi, s2, b2.rel, wp_mono q3 (fun o s3 eo q4 => ?_) fun _ _ e => e⟩
      intro w3 H3 a3
      have hs3 := hro _ _ _ eo
      have step : At F.T0 wi ⟨s1.sl, hi'⟩ σ H2 w3 ⟨s1.sl, s3.hp⟩ σ H3 := by
        refine At.lift (s := ⟨s1.sl, hi'⟩) A.rel (b2.trans a3) wipe_sub fun j t hj ho => ?_
        by_cases hjo : j ∈ own
        · exact .inr (wipe_in hjo)
        · obtain ⟨z1, z2⟩ := k3 j hjo
          refine .inl ⟨?_, ?_⟩
          · rw [hs3, z1]
            show (wipe s1.sl own)[j]? = _
            rw [wipe_out hjo]
            exact hj
          · rw [z2, wipeV_out hjo]
      obtain ⟨hD3, hI3, hm3⟩ := step.fr D _ hDa (fun _ z => nomatch z) hDI hDm hDo
      have A3 := A.trans step
      cases o with
      | none => exact ⟨w3, s3.hp, acc, ds, A3, hD3, RVs.mono step.le rs, hI3, hm3, hDo, Nat.le_succ_of_le hlen, q4⟩
      | some d2 =>
        intro v rv
        refine ⟨acc, hD3, big_line (by rw [rs.length]; omega), w3, s3.hp, acc ++ [v], ds ++ [d2], A3.poke hD hD3 (fun _ z => nomatch z) (fun _ z => nomatch z) hI3 hm3 hDo, upd_same, (RVs.mono step.le rs).snoc rv, hI3, hm3, hDo, by rw [List.length_append]; show ds.length + 1 ≤ _; omega, ?_⟩
        refine wp_mono q4 (fun rest s' _ z => ?_) fun _ _ z => z
        have e : ds ++ [d2] ++ rest = ds ++ d2 :: rest := by simp
        rw [e]
        exact z
  · have e : xs.drop i = [] := List.drop_eq_nil_of_le (by omega)
    rw [e] at q
    have q : Fin F w s σ H Q (.ol (ds ++ [])) ⟨s1.sl, hi'⟩ := q
    rw [List.append_nil] at q
    have ei : i = xs.length := by omega
    subst ei
    refine .inl ⟨hw.stops, q wi H' (.ref D) (a1.trans A) ⟨⟨D, acc, rfl, hDa, rs, hDI, hDm⟩, fun _ x ex => ?_⟩ fun _ x ex => ?_⟩
    · cases ex
      exact hDo
    · cases ex
      exact .inr (a1.dom D (gone_none hD))

/-! ### calls -/
/-- what is asked of a def: k is what it computes -/
def spec (F : Fx) (k : List D → Hs → R T) : Sp := fun vs H Q E => ∃ w args h, Rel F.T0 w ⟨[], h⟩ [] H ∧ RVs w vs args ∧
  wp (k args h) (fun t s' => Fin F w ⟨[], h⟩ [] H Q t ⟨[], s'.hp⟩) (fun c g => ∀ w' H', Le w w' → Rel F.T0 w' ⟨[], g⟩ [] H' → Fr w [] [] H w' H' → Dom H H' → E (F.cv c) none H')
theorem Rel.none (r : Rel T0 w s σ H) : Rel T0 w ⟨[], s.hp⟩ [] H := r.fewer rfl fun i t e => by simp at e
theorem no_own {a : Addr} {σ : L2.St} : ¬ Own [] σ a := fun ⟨i, t, e, _⟩ => by simp at e
/-- the exceptions of a call -/
def EX (W : WX) : XK := fun cls d H' => ∀ σ', W cls d σ' H'
theorem tE_call {k : List D → Hs → R T} {m : M (List D)} {Q : VK} (h : tE F W (bind m fun ds => fun s => match k ds s.hp with
    | .ok t s' => .ok t ⟨s.sl, s'.hp⟩
    | .ex c h => .ex c h
    | .bad => .bad) σ H Q) : tCall (spec F k) [] (EX W) (tDs F W m) σ H Q := by
  obtain ⟨w, s, r, h⟩ := h
  refine ⟨w, s, r, wp_mono (wp_bind h) (fun ds s1 _ q => ?_) fun _ _ e => e⟩
  intro w1 H1 vs a1 rs
  rw [List.append_nil]
  refine ⟨w1, ds, s1.hp, a1.rel.none, rs, ?_⟩
  have q : wp (match k ds s1.hp with | .ok t s' => R.ok t ⟨s1.sl, s'.hp⟩ | .ex c h => .ex c h | .bad => .bad) (Fin F w s σ H Q) (Exc F W w s σ H) := q
  cases e : k ds s1.hp with
  | bad => rw [e] at q; exact q.elim
  | ex c g =>
    rw [e] at q
    have q : Exc F W w s σ H c g := q
    intro w2 H2 l2 r2 f2 d2 σ'
    refine q w2 H2 (a1.le.trans l2) r2 (fun x o hx nx hi hm ho => ?_) (fun x z => a1.dom x (d2 x z)) σ'
    obtain ⟨h1, i1, m1⟩ := a1.fr x o hx nx hi hm ho
    exact f2 x o h1 nx i1 m1 no_own
  | ok t s2 =>
    rw [e] at q
    have q : Fin F w s σ H Q t ⟨s1.sl, s2.hp⟩ := q
    intro w2 H2 v a2 val n
    have b := At.lift a1.rel a2 (fun i t e => by simp at e) (fun i t _ _ => .inr fun u z => by simp at z)
    refine q w2 H2 v (a1.trans b) ⟨val.rt, fun ho x ex hx => ?_⟩ fun ho x ex => ?_
    · rcases n ho x ex with z | z
      · exact no_own z
      · exact a1.rel.ne_own z hx
    · rcases n ho x ex with z | z
      · exact absurd z no_own
      · exact .inr (a1.dom x z)

/-! ### dict displays -/
def cons3 (ks : List Str) (tvs : List TE) : List (TE × TE) := ks.zip tvs |>.map fun p => (tC (.str p.1), p.2)
theorem evs_cons_len {C : Ctx} {ro : Bool} {es : List E} {s s' : S} {ds : List D} (h : E.evs C ro es s = .ok ds s') : ds.length = es.length := evs_len es s ds s' h
theorem mergeK_nodup : ∀ (kvs acc : List (Key × V)), (acc ++ kvs).map (·.1) |>.Nodup → mergeK acc kvs = acc ++ kvs
  | [], acc, _ => by
    show acc = _
    rw [List.append_nil]
  | p :: kvs, acc, h => by
    show mergeK (putK acc p.1 p.2) kvs = _
    have hp : (acc.any fun kv => decide (kv.1 = p.1)) = false := by
      rw [List.any_eq_false]
      intro q hq
      simp only [decide_eq_true_eq]
      intro e
      rw [List.map_append, List.map_cons, List.nodup_append] at h
      exact h.2.2 q.1 (List.mem_map_of_mem hq) p.1 List.mem_cons_self e
    have e : putK acc p.1 p.2 = acc ++ [p] := by
      unfold putK
      rw [hp]
      rfl
    rw [e, mergeK_nodup kvs (acc ++ [p]) (by simpa using h)]
    simp
/-- the pairs of a display -/
theorem tPairs_ok {C : Ctx} {ro : Bool} : ∀ (ks : List Str) (es : List E) (σ : L2.St) (H : Hp) (Q : List (V × V) → Hp → Prop), ks.length = es.length → tDs F W (E.evs C ro es) σ H (fun vs H' => Q ((ks.map V.str).zip vs) H') →
    tPairs ((ks.zip es).map fun p => (tC (.str p.1), tE F W (E.ev C ro p.2))) σ H Q
  | [], [], σ, H, Q, _, h => tDs_nil h
  | k :: ks, e :: es, σ, H, Q, hl, h => by
    have h := tDs_cons h
    show (tC (.str k)) σ H fun x H1 => tE F W (E.ev C ro e) σ H1 fun y H2 => tPairs ((ks.zip es).map fun p => (tC (.str p.1), tE F W (E.ev C ro p.2))) σ H2 fun ps H3 => Q ((x, y) :: ps) H3
    obtain ⟨w, s, r, h⟩ := h
    refine ⟨w, s, r, wp_mono h (fun t s1 _ q => ?_) fun _ _ e => e⟩
    intro w1 H1 v a1 val n
    exact tPairs_ok ks es σ H1 _ (Nat.succ.inj hl) (q w1 H1 v a1 val n)
theorem dct_ok : ∀ {ks : List Str} {vs : List V} {ds : List D}, RVs w vs ds → Paired (fun (p : Key × V) (q : Str × D) => p.1 = .inr q.1 ∧ RV w p.2 q.2) ((ks.zip vs).map fun p => (Sum.inr p.1, p.2)) (ks.zip ds)
  | [], _, _, _ => by
    rw [List.zip_nil_left, List.zip_nil_left]
    exact .nil
  | _ :: _, _, _, .nil => by
    rw [List.zip_nil_right, List.zip_nil_right]
    exact .nil
  | k :: ks, _, _, .cons r rs => .cons ⟨rfl, r⟩ (dct_ok rs)
theorem tE_hdict {C : Ctx} {ro : Bool} {ks : List Str} {es : List E} (hl : ks.length = es.length) (hn : ks.Nodup) (h15 : ks.length ≤ 15) {Q : VK}
    (h : tE F W (bind (E.evs C ro es) fun ds => fun s => .ok (.d (.ref s.hp.length)) ⟨s.sl, s.hp ++ [.dct (ks.zip ds)]⟩) σ H Q) :
    tDisp ((ks.zip es).map fun p => (tC (.str p.1), tE F W (E.ev C ro p.2))) σ H Q := by
  obtain ⟨w, s, r, h⟩ := h
  intro p hp
  have r1 := r.ext (same_new (o := .dK []) hp)
  have a0 : At F.T0 w s σ H w s σ (upd H p (.dK [])) := (At.refl r).ext (same_new hp)
  refine tPairs_ok ks es σ _ _ hl ⟨w, s, r1, wp_mono (wp_bind h) (fun ds s1 ed q => ?_) fun _ _ e => e.from a0⟩
  intro w1 H1 vs a1 rs
  have hz : ds.length = ks.length := by rw [evs_len _ _ _ _ ed, hl]
  obtain ⟨p1, p2, p3⟩ := a1.fr p (.dK []) upd_same (fun _ z => nomatch z) (r.ne_I hp) (r.ne_ι hp) (r.ne_own (gone_none hp))
  have no1 : ¬ Own s1.sl σ p := fun z => by
    rcases a1.own p z with z | z
    · exact r.ne_own (gone_none hp) z
    · obtain ⟨ps, e⟩ := z _ upd_same
      cases e
  refine ⟨p1, (ks.zip vs).map fun p => (Sum.inr p.1, p.2), ?_, ?_, ?_⟩
  · rw [List.map_map, List.zip_map_left]
    apply List.map_congr_left
    intro x _
    rfl
  · rw [List.length_map, List.length_zip, rs.length, hz]
    omega
  · rw [mergeK_nodup _ [] ?_]
    · have A := (a0.trans a1).poke (o := .dK ((ks.zip vs).map fun p => (Sum.inr p.1, p.2))) hp p1 (fun _ z => nomatch z) (fun _ z => nomatch z) p2 p3 no1
      obtain ⟨B, rv, _⟩ := A.adopt (x := .dct (ks.zip ds)) hp upd_same p2 p3 no1 ⟨_, upd_same, dct_ok rs⟩
      exact q _ _ _ B (Val.d rv) NewT.d
    · rw [List.nil_append, List.map_map]
      have e : ((fun x : Key × V => x.1) ∘ fun p : Str × V => ((Sum.inr p.1 : Key), p.2)) = (fun x : Str => (Sum.inr x : Key)) ∘ (fun p : Str × V => p.1) := rfl
      rw [e, ← List.map_map, List.map_fst_zip (by rw [rs.length, hz]; exact Nat.le_refl _)]
      exact List.Pairwise.map _ (fun a b hab z => hab (Sum.inr.inj z)) hn

/-! ### chains -/
theorem tE_chain {p q : P} {ma mb mc : M Av} {Q : VK} (h : tE F W (bind ma fun x => bind mb fun y => bind (runP p [x, y]) fun r => match r with
      | .d (.bl true) => bind mc fun z => runP q [y, z]
      | .d (.bl false) => ret (.d (.bl false))
      | _ => fail) σ H Q) : tChain (fun x y H Q => ∃ σ', PrL F p [x, y] σ' H Q) (fun x y H Q => ∃ σ', PrL F q [x, y] σ' H Q) (tAv F W ma) (tAv F W mb) (tAv F W mc) σ H Q := by
  obtain ⟨w, s, r, h⟩ := h
  refine ⟨w, s, r, wp_mono (wp_bind h) (fun x s1 _ k => ?_) fun _ _ e => e⟩
  intro w1 H1 vx a1 okx nx
  refine ⟨w1, s1, a1.rel, wp_mono (wp_bind k) (fun y s2 _ k => ?_) fun _ _ e => e.from a1⟩
  intro w2 H2 vy a2 oky ny
  have okx := okx.keep a2
  obtain ⟨ts, t, e1, e2, k⟩ := wp_runP (wp_bind k)
  refine ⟨σ, w2, s2, ts, t, a2.rel, (AvsOk.cons okx (.cons oky .nil)).gets a2.rel e1, e2, ?_⟩
  intro w3 H3 v a3 val n
  split at k
  · cases val.rt
    refine ⟨true, rfl, ?_⟩
    rw [if_pos rfl]
    refine ⟨w3, s2, a3.rel, wp_mono (wp_bind k) (fun z s4 _ k => ?_) fun _ _ e => (e.from a1).from (a2.trans a3)⟩
    intro w4 H4 vz a4 okz nz
    have oky := (oky.keep a3).keep a4
    obtain ⟨ts', t', e3, e4, k⟩ := wp_runP k
    exact ⟨σ, w4, s4, ts', t', a4.rel, (AvsOk.cons oky (.cons okz .nil)).gets a4.rel e3, e4, k.from (a1.trans (a2.trans (a3.trans a4)))⟩
  · cases val.rt
    refine ⟨false, rfl, ?_⟩
    rw [if_neg (by decide)]
    exact k w3 H3 _ (a1.trans (a2.trans a3)) (Val.d (.bl false)) NewT.d
  · exact k.elim
end
end PL
end
section
set_option linter.all false
set_option maxRecDepth 100000
set_option maxHeartbeats 4000000
/-! PL8: statements: the readings. -/
namespace PL
open PySem PySem.Spec PyProof.Rows L2
section
variable {F : Fx} {W : WX} {T0 : List (Addr × Str)} {w w1 w2 w3 w' : Wd} {s s1 s2 s3 s' : S} {σ σ0 σ1 σ2 σ3 σ' : L2.St} {H H1 H2 H3 H' : Hp} {v v' : V} {t t' : T} {K : PySem.W.Frag}

/-! ### what is ours is changed -/
theorem At.setOwn (b : At T0 w s σ H w1 s1 σ1 H1) {i : Nat} {a : Addr} {xs xs' : List D} {vs' : List V} (e0 : s1.sl[i]? = some (some (.ol xs))) (e1 : σ1[i]? = some (some (V.ref a))) (r' : RVs w1 vs' xs') :
    At T0 w s σ H w1 (setSl s1 i (some (.ol xs'))) σ1 (upd H1 a (.lst vs')) := by
  have r := b.rel
  obtain ⟨v0, z0, a0, vs, z1, hH, rs, hi, hm⟩ := r.sl i _ e0
  rw [e1] at z0
  cases z0
  cases z1
  have hlt : i < s1.sl.length := (List.getElem?_eq_some_iff.mp e0).1
  have at_ : ∀ (j : Nat) (u : T), (s1.sl.set i (some (.ol xs')))[j]? = some (some u) → (j = i ∧ u = .ol xs') ∨ (j ≠ i ∧ s1.sl[j]? = some (some u)) := fun j u z => by
    by_cases hj : i = j
    · subst hj
      rw [List.getElem?_set_self hlt] at z
      cases z
      exact .inl ⟨rfl, rfl⟩
    · rw [List.getElem?_set_ne hj] at z
      exact .inr ⟨fun q => hj q.symm, z⟩
  have old : ∀ (j : Nat) (u : T), (s1.sl.set i (some (.ol xs')))[j]? = some (some u) → isOwn u = true → ∃ u', s1.sl[j]? = some (some u') ∧ isOwn u' = true := fun j u z o => by
    rcases at_ j u z with ⟨rfl, rfl⟩ | ⟨_, z⟩
    · exact ⟨_, e0, rfl⟩
    · exact ⟨u, z, o⟩
  have ne : ∀ {c : Addr} {x : HO}, H1 c = some x → x ≠ .lst vs → c ≠ a := fun e n z => by
    subst z
    rw [hH] at e
    cases e
    exact n rfl
  refine ⟨b.le, ⟨fun c x e => ?_, ?_, fun j u e => ?_, fun j k c t u z1 z2 o1 o2 y1 y2 => ?_, ⟨r.hp.len, r.hp.nd, fun n x e => ?_⟩, fun p hp => ?_, r.nt⟩, fun c x e n i' m no => ?_, fun c e => ?_, fun c ⟨j, u, z1, z2, z3⟩ => ?_⟩
  · rw [upd_ne (ne_of_none e hi)]
    exact r.same _ _ e
  · show (s1.sl.set i _).length = _
    rw [List.length_set]
    exact r.len
  · rcases at_ j u e with ⟨rfl, rfl⟩ | ⟨hj, e⟩
    · exact ⟨_, e1, a, vs', rfl, upd_same, r', hi, hm⟩
    · obtain ⟨v, y1, q⟩ := r.sl j u e
      refine ⟨v, y1, ?_⟩
      cases u with
      | d x => exact q
      | ol ys =>
        obtain ⟨c, us, ev, h, q⟩ := q
        have : c ≠ a := fun z => by
          subst z
          exact hj (r.dis j i c _ _ e e0 rfl rfl (by rw [y1, ev]) e1)
        exact ⟨c, us, ev, by rw [upd_ne this]; exact h, q⟩
  · obtain ⟨t', x1, x2⟩ := old j t z1 o1
    obtain ⟨u', x3, x4⟩ := old k u z2 o2
    exact r.dis j k c t' u' x1 x3 x2 x4 y1 y2
  · obtain ⟨c, y1, y2, q⟩ := r.hp.at_ n x e
    refine ⟨c, y1, y2, ?_⟩
    have : c ≠ a := fun z => hm (by rw [← z]; exact List.mem_of_getElem? y1)
    cases x with
    | dct kvs =>
      obtain ⟨ks, e3, q⟩ := q
      exact ⟨ks, by rw [upd_ne this]; exact e3, q⟩
    | lst xs =>
      obtain ⟨ks, e3, q⟩ := q
      exact ⟨ks, by rw [upd_ne this]; exact e3, q⟩
  · obtain ⟨ps, y1, y2, y3⟩ := r.tabs p hp
    refine ⟨ps, by rw [upd_ne (ne y1 fun z => nomatch z)]; exact y1, y2, fun pos cv hc => ?_⟩
    obtain ⟨c, ec, hc⟩ := y3 pos cv hc
    exact ⟨c, ec, by rw [upd_ne (ne hc fun z => nomatch z)]; exact hc⟩
  · obtain ⟨y1, y2⟩ := b.fr c x e n i' m no
    refine ⟨?_, y2⟩
    have : c ≠ a := fun z => by
      subst z
      rcases b.own _ ⟨i, _, e0, rfl, e1⟩ with q | q
      · exact no q
      · obtain ⟨ps, e⟩ := q _ e
        exact n ps e
    rw [upd_ne this]
    exact y1
  · by_cases z : c = a
    · subst z
      obtain ⟨ps, q⟩ := e _ upd_same
      cases q
    · refine b.dom c fun x q => e x ?_
      rw [upd_ne z]
      exact q
  · obtain ⟨u', x3, x4⟩ := old j u z1 z2
    exact b.own c ⟨j, u', x3, x4, z3⟩
theorem At.setRef (b : At T0 w s σ H w1 s1 σ1 H1) {n : Nat} {a : Addr} {x x' : AO} {o' : HO} (hx : s1.hp[n]? = some x) (ha : w1.ι[n]? = some a) (r' : RO w1 (upd H1 a o') a x') :
    At T0 w s σ H w1 ⟨s1.sl, s1.hp.set n x'⟩ σ1 (upd H1 a o') := by
  have r := b.rel
  obtain ⟨a0, z0, hi, hro⟩ := r.hp.at_ n x hx
  rw [ha] at z0
  cases z0
  have hm : a ∈ w1.ι := List.mem_of_getElem? ha
  have hlt : n < s1.hp.length := (List.getElem?_eq_some_iff.mp hx).1
  have ne : ∀ {c : Addr} {y : HO}, H1 c = some y → (∀ vs, y ≠ .lst vs) → (∀ vs, y ≠ .dK vs) → c ≠ a := fun e n1 n2 z => by
    subst z
    cases x with
    | dct kvs =>
      obtain ⟨ks, e3, q⟩ := hro
      rw [e3] at e
      cases e
      exact n2 _ rfl
    | lst xs =>
      obtain ⟨ks, e3, q⟩ := hro
      rw [e3] at e
      cases e
      exact n1 _ rfl
  refine ⟨b.le, ⟨fun c y e => ?_, r.len, fun j u e => ?_, r.dis, ⟨?_, r.hp.nd, fun m y e => ?_⟩, fun p hp => ?_, r.nt⟩, fun c y e nn i' m no => ?_, fun c e => ?_, b.own⟩
  · rw [upd_ne (ne_of_none e hi)]
    exact r.same _ _ e
  · obtain ⟨v, y1, q⟩ := r.sl j u e
    refine ⟨v, y1, ?_⟩
    cases u with
    | d x => exact q
    | ol ys =>
      obtain ⟨c, us, ev, h, q1, q2, q3⟩ := q
      have : c ≠ a := fun z => q3 (by rw [z]; exact hm)
      exact ⟨c, us, ev, by rw [upd_ne this]; exact h, q1, q2, q3⟩
  · show _ = (s1.hp.set n x').length
    rw [List.length_set]
    exact r.hp.len
  · have e : (s1.hp.set n x')[m]? = some y := e
    by_cases hmn : n = m
    · subst hmn
      rw [List.getElem?_set_self hlt] at e
      cases e
      exact ⟨a, ha, hi, r'⟩
    · rw [List.getElem?_set_ne hmn] at e
      obtain ⟨c, y1, y2, q⟩ := r.hp.at_ m y e
      refine ⟨c, y1, y2, ?_⟩
      have : c ≠ a := fun z => by
        subst z
        obtain ⟨l1, l2⟩ := List.getElem?_eq_some_iff.mp y1
        obtain ⟨l3, l4⟩ := List.getElem?_eq_some_iff.mp ha
        exact hmn ((List.getElem_inj r.hp.nd).mp (l4.trans l2.symm))
      cases y with
      | dct kvs =>
        obtain ⟨ks, e3, q⟩ := q
        exact ⟨ks, by rw [upd_ne this]; exact e3, q⟩
      | lst xs =>
        obtain ⟨ks, e3, q⟩ := q
        exact ⟨ks, by rw [upd_ne this]; exact e3, q⟩
  · obtain ⟨ps, y1, y2, y3⟩ := r.tabs p hp
    refine ⟨ps, by rw [upd_ne (ne y1 (fun _ z => nomatch z) fun _ z => nomatch z)]; exact y1, y2, fun pos cv hc => ?_⟩
    obtain ⟨c, ec, hc⟩ := y3 pos cv hc
    exact ⟨c, ec, by rw [upd_ne (ne hc (fun _ z => nomatch z) fun _ z => nomatch z)]; exact hc⟩
  · obtain ⟨y1, y2, y3⟩ := b.fr c y e nn i' m no
    refine ⟨?_, y2, y3⟩
    have : c ≠ a := fun z => y3 (by rw [z]; exact hm)
    rw [upd_ne this]
    exact y1
  · by_cases z : c = a
    · subst z
      obtain ⟨ps, q⟩ := e _ upd_same
      subst q
      cases x' with
      | dct _ =>
        obtain ⟨_, z, _⟩ := r'
        rw [upd_same] at z
        cases z
      | lst _ =>
        obtain ⟨_, z, _⟩ := r'
        rw [upd_same] at z
        cases z
    · refine b.dom c fun x q => e x ?_
      rw [upd_ne z]
      exact q

/-! ### pop -/
theorem last_ix {vs : List V} {x : D} {xs : List D} (r : RVs w vs xs) (h : xs.getLast? = some x) : ∃ v, vs[vs.length - 1]? = some v ∧ RV w v x := by
  rw [List.getLast?_eq_getElem?] at h
  rw [r.length]
  exact r.get h
theorem tE_pop {i : Nat} {Q : VK} (h : tE F W (fun s => match slot s i with
    | some (.ol xs) => match xs.getLast? with
      | some x => .ok (.d x) (setSl s i (some (.ol xs.dropLast)))
      | none => .bad
    | _ => .bad) σ H Q) : tBM0 K "list" rPop (tVar i) σ H Q := by
  obtain ⟨w, s, r, h⟩ := h
  cases e1 : slot s i with
  | none => simp only [e1] at h; exact h.elim
  | some t =>
    cases t with
    | d x => simp only [e1] at h; exact h.elim
    | ol xs =>
      simp only [e1] at h
      cases e2 : xs.getLast? with
      | none => simp only [e2] at h; exact h.elim
      | some x =>
        simp only [e2] at h
        have e0 := slot_some e1
        obtain ⟨v, e3, a, vs, ev, hH, rs, hi, hm⟩ := r.sl i _ e0
        subst ev
        obtain ⟨y, ey, ry⟩ := last_ix rs e2
        refine ⟨.ref a, e3, .inl ⟨rfl, vs, .inl (.inl hH)⟩, a, vs, y, rfl, rfl, hH, ey, ?_⟩
        exact h w _ y ((At.refl r).setOwn e0 e3 rs.dropLast) (Val.d ry) NewT.d

/-! ### the readings of statements -/
/-- from (w, s, σ, H) on: what is wanted of a statement's end -/
def finO (F : Fx) (D : Ends) (w : Wd) (s : S) (σ : L2.St) (H : Hp) : O → S → Prop := fun o s' => ∀ w' H' σ', At F.T0 w s σ H w' s' σ' H' → match o with
  | .nx => D.nx σ' H'
  | .bk => D.bk σ' H'
  | .ct => D.ct σ' H'
  | .rt t => ∀ v, Val w' s'.sl σ' H' v t → NewT s.sl σ H v t → D.rt v H'
def tSt (F : Fx) (W : WX) (m : M O) : TS := fun D σ H => ∃ w s, Rel F.T0 w s σ H ∧ wp (m s) (finO F D w s σ H) (Exc F W w s σ H)
theorem finO.from (b : At F.T0 w s σ H w1 s1 σ1 H1) {D : Ends} {o : O} {s' : S} (e : finO F D w s σ H o s') : finO F D w1 s1 σ1 H1 o s' := fun w' H' σ' a => by
  have q := e w' H' σ' (b.trans a)
  cases o with
  | nx => exact q
  | bk => exact q
  | ct => exact q
  | rt t => exact fun v val n => q v val (b.newT n)
theorem _root_.L2.PS.wk {X : Cx} {st : Stmt} {t t' : TS} (h : PS X st t) (k : ∀ D σ H, t' D σ H → t D σ H) : PS X st t' := ⟨fun pins s σ H D I q => h.run pins s σ H D I (k D σ H q)⟩
theorem _root_.L2.PSs.wk {X : Cx} {st : List Stmt} {t t' : TS} (h : PSs X st t) (k : ∀ D σ H, t' D σ H → t D σ H) : PSs X st t' := ⟨fun pins s σ H D I q => h.run pins s σ H D I (k D σ H q)⟩
variable {De : Ends}
theorem st_nil (h : tSt F W (ret .nx) De σ H) : tNext De σ H := by
  obtain ⟨w, s, r, h⟩ := h
  exact h w H σ (At.refl r)
theorem st_cons {m1 m2 : M O} (h : tSt F W (bind m1 fun o => match o with | .nx => m2 | o => ret o) De σ H) : tSeq (tSt F W m1) (tSt F W m2) De σ H := by
  obtain ⟨w, s, r, h⟩ := h
  refine ⟨w, s, r, wp_mono (wp_bind h) (fun o s1 _ q => ?_) fun _ _ e => e⟩
  intro w1 H1 σ1 a1
  cases o with
  | nx => exact ⟨w1, s1, a1.rel, wp_mono q (fun _ _ _ z => z.from a1) fun _ _ z => z.from a1⟩
  | bk => exact q w1 H1 σ1 a1
  | ct => exact q w1 H1 σ1 a1
  | rt t => exact q w1 H1 σ1 a1
mutual
theorem put_ne : ∀ (g : G) (t : T) (s : S) (c : Nat) (h : Hs), G.put g t s ≠ .ex c h
  | .nm i, t, s, c, h, e => by
    have e : (if i < s.sl.length then R.ok () (setSl s i (some t)) else .bad) = .ex c h := e
    split at e <;> cases e
  | .tup gs, t, s, c, h, e => by
    cases t with
    | ol _ => cases e
    | d d =>
      cases d with
      | tup xs => exact puts_ne gs xs s c h e
      | _ => cases e
theorem puts_ne : ∀ (gs : List G) (xs : List D) (s : S) (c : Nat) (h : Hs), G.puts gs xs s ≠ .ex c h
  | [], [], _, _, _, e => by cases e
  | [], _ :: _, _, _, _, e => by cases e
  | _ :: _, [], _, _, _, e => by cases e
  | g :: gs, x :: xs, s, c, h, e => by
    have e : bind (G.put g (.d x)) (fun _ => G.puts gs xs) s = .ex c h := e
    unfold bind at e
    cases e1 : G.put g (.d x) s with
    | bad => rw [e1] at e; cases e
    | ex _ _ => exact put_ne g _ s _ _ e1
    | ok u s3 =>
      rw [e1] at e
      exact puts_ne gs xs s3 c h e
end
theorem wp_put {g : G} {t : T} {Φ : Unit → S → Prop} {Ψ : Nat → Hs → Prop} (h : wp (G.put g t s) Φ Ψ) : ∃ s2, G.put g t s = .ok () s2 ∧ Φ () s2 := by
  cases e : G.put g t s with
  | bad => rw [e] at h; exact h.elim
  | ex c g' => exact absurd e (put_ne g t s c g')
  | ok u s2 =>
    rw [e] at h
    exact ⟨s2, rfl, h⟩
theorem st_asg {m : M T} {g : G} (h : tSt F W (bind m fun t => bind (G.put g t) fun _ => ret .nx) De σ H) : tAsg (tE F W m) (gR K g) De σ H := by
  obtain ⟨w, s, r, h⟩ := h
  refine ⟨w, s, r, wp_mono (wp_bind h) (fun t s1 _ q => ?_) fun _ _ e => e⟩
  intro w1 H1 v a1 val n
  obtain ⟨s2, e2, q⟩ := wp_put (wp_bind q)
  exact put_ok g s1 σ v t a1 val n s2 e2 De.nx fun σ2 b2 _ => q w1 H1 σ2 b2
theorem augT_some {p : P} {x y t : T} (h : augT p x y = some t) : ∃ a b c, x = .d a ∧ y = .d b ∧ t = .d c ∧
    ((p = .add ∧ ∃ i j, a = .int i ∧ b = .int j ∧ c = .int (i + j)) ∨ (p = .sub ∧ ∃ i j, a = .int i ∧ b = .int j ∧ c = .int (i - j)) ∨ (p = .add ∧ ∃ i j : Str, a = .str i ∧ b = .str j ∧ c = .str (i ++ j) ∧ i.length + j.length < big)) := by
  unfold augT at h
  split at h
  · cases h
    exact ⟨_, _, _, rfl, rfl, rfl, .inl ⟨rfl, _, _, rfl, rfl, rfl⟩⟩
  · cases h
    exact ⟨_, _, _, rfl, rfl, rfl, .inr (.inl ⟨rfl, _, _, rfl, rfl, rfl⟩)⟩
  · split at h
    · rename_i hb
      cases h
      exact ⟨_, _, _, rfl, rfl, rfl, .inr (.inr ⟨rfl, _, _, rfl, rfl, rfl, hb⟩)⟩
    · cases h
  · cases h
def tiAug (p : P) : TIp := fun x y H Q =>
  (p = .add ∧ ∃ i j, x = .int i ∧ y = .int j ∧ Q (.int (i + j)) H) ∨ (p = .sub ∧ ∃ i j, x = .int i ∧ y = .int j ∧ Q (.int (i - j)) H) ∨
  (p = .add ∧ ∃ i j : Str, x = .str i ∧ y = .str j ∧ i.length + j.length ≤ sizeLine ∧ Q (.str (i ++ j)) H)
def augOp : P → Option Operator
  | .add => some .Add
  | .sub => some .Sub
  | _ => none
theorem ip_aug {X : Cx} {p : P} {op : Operator} (h : augOp p = some op) : PIp X op (tiAug p) := by
  intro pins s σ H x y v u Q I r1 r2 q
  rcases q with ⟨rfl, i, j, rfl, rfl, q⟩ | ⟨rfl, i, j, rfl, rfl, q⟩ | ⟨rfl, i, j, rfl, rfl, hz, q⟩
  · cases h
    exact ip_add pins s σ H _ _ v u Q I r1 r2 ⟨i, j, rfl, rfl, q⟩
  · cases h
    exact ip_sub pins s σ H _ _ v u Q I r1 r2 ⟨i, j, rfl, rfl, q⟩
  · cases h
    obtain ⟨t, rfl⟩ := r1
    obtain ⟨t', rfl⟩ := r2
    exact PyProof.Rows.iadd_str (fun t2 tk => ⟨.str _, H, I.tok _, ⟨_, rfl⟩, q⟩) hz
theorem st_aug {m m0 : M T} {i : Nat} {p : P} (h0 : m0 = see fun s => match slot s i with | some (.d x) => some (.d x) | _ => none)
    (h : tSt F W (bind m0 fun x => bind m fun y => bind (lift (augT p x y)) fun t => bind (G.put (.nm i) t) fun _ => ret .nx) De σ H) : tAug i (tE F W m) (tiAug p) De σ H := by
  obtain ⟨w, s, r, h⟩ := h
  subst h0
  obtain ⟨x, e, q⟩ := wp_see (wp_bind h)
  cases e1 : slot s i with
  | none => rw [e1] at e; cases e
  | some t =>
    rw [e1] at e
    cases t with
    | ol xs => cases e
    | d x' =>
      cases e
      obtain ⟨v, e2, q2⟩ := r.sl i _ (slot_some e1)
      have q2 : RV w v x' := q2
      refine ⟨v, e2, w, s, r, wp_mono (wp_bind q) (fun y s1 _ q => ?_) fun _ _ e => e⟩
      intro w1 H1 vy a1 val n
      obtain ⟨t, e3, q⟩ := wp_lift (wp_bind q)
      obtain ⟨s2, e4, q⟩ := wp_put (wp_bind q)
      have q : finO F De w s σ H .nx s2 := q
      obtain ⟨a, b, c, z1, rfl, rfl, hh⟩ := augT_some e3
      cases z1
      have fin : ∀ z, RV w1 z c → De.nx (σ.set i (some z)) H1 := fun z rz => by
        have e4 : (if i < s1.sl.length then R.ok () (setSl s1 i (some (.d c))) else .bad) = .ok () s2 := e4
        split at e4
        · rename_i hi
          cases e4
          exact q w1 H1 _ (a1.put (Val.d rz) NewT.d hi)
        · cases e4
      have rb : RV w1 vy b := val.rt
      rcases hh with ⟨rfl, i1, j1, rfl, rfl, rfl⟩ | ⟨rfl, i1, j1, rfl, rfl, rfl⟩ | ⟨rfl, i1, j1, rfl, rfl, rfl, hb⟩
      · cases q2
        cases rb
        exact .inl ⟨rfl, _, _, rfl, rfl, fin _ (.int _)⟩
      · cases q2
        cases rb
        exact .inr (.inl ⟨rfl, _, _, rfl, rfl, fin _ (.int _)⟩)
      · cases q2 with
        | str _ o1 =>
          cases rb with
          | str _ o2 => exact .inr (.inr ⟨rfl, _, _, rfl, rfl, Nat.le_of_lt (big_line hb), fin _ (.str _ (strOk_app o1 o2))⟩)
end
end PL
end
section
set_option linter.all false
set_option maxRecDepth 100000
set_option maxHeartbeats 4000000
/-! PL9: statements: the readings, on. -/
namespace PL
open PySem PySem.Spec PyProof.Rows L2
section
variable {F : Fx} {W : WX} {T0 : List (Addr × Str)} {w w1 w2 w3 w' : Wd} {s s1 s2 s3 s' : S} {σ σ0 σ1 σ2 σ3 σ' : L2.St} {H H1 H2 H3 H' : Hp} {v v' : V} {t t' : T} {K : PySem.W.Frag} {De : Ends}

theorem isOl_some {i : Nat} {Φ : Unit → S → Prop} {Ψ : Nat → Hs → Prop} (h : wp (isOl i s) Φ Ψ) : ∃ xs, s.sl[i]? = some (some (.ol xs)) ∧ Φ () s := by
  obtain ⟨u, e, q⟩ := wp_see h
  cases e1 : slot s i with
  | none => rw [e1] at e; cases e
  | some t =>
    rw [e1] at e
    cases t with
    | d _ => cases e
    | ol xs => exact ⟨xs, slot_some e1, q⟩
theorem st_append {m : M T} {i : Nat} (h : tSt F W (bind (isOl i) fun _ => bind m fun t => bind (needD t) fun d => fun s => match slot s i with
    | some (.ol xs) => if xs.length < big then .ok .nx (setSl s i (some (.ol (xs ++ [d])))) else .bad
    | _ => .bad) De σ H) : tDrop (tBM K "list" rAppend (tVar i) (tCons (tE F W m) tNil)) De σ H := by
  obtain ⟨w, s, r, h⟩ := h
  obtain ⟨xs0, e0, h⟩ := isOl_some (wp_bind h)
  obtain ⟨v0, e1, a, vs0, ev, hH, _, _, _⟩ := r.sl i _ e0
  subst ev
  refine ⟨.ref a, e1, .inl ⟨rfl, vs0, .inl (.inl hH)⟩, w, s, r, wp_mono (wp_bind h) (fun t s1 _ q => ?_) fun _ _ e => e⟩
  intro w1 H1 v a1 val n
  have q := wp_needD (wp_bind q)
  obtain ⟨w2, a2, l2, r2, _⟩ := a1.freeze val n
  cases e2 : slot s1 i with
  | none => simp only [e2] at q; exact q.elim
  | some t2 =>
    cases t2 with
    | d x => simp only [e2] at q; exact q.elim
    | ol xs =>
      simp only [e2] at q
      by_cases hb : xs.length < big
      · rw [if_pos hb] at q
        have e3 := slot_some e2
        obtain ⟨v1, e4, a', vs, ev, hH1, rs, _, _⟩ := a2.rel.sl i _ e3
        rw [e1] at e4
        cases e4
        cases ev
        refine ⟨a, vs, v, rfl, rfl, hH1, by rw [rs.length]; exact big_line hb, ?_⟩
        exact q w2 _ σ (a2.setOwn e3 e1 (rs.snoc r2))
      · rw [if_neg hb] at q
        exact q.elim
/-- a list: frozen, own, or one that changes -/
theorem RT.lst (r : Rel T0 w s σ H) {xs : List D} (q : RT w H v t) (h : lstOf s.hp t = some xs) : ∃ a vs, v = .ref a ∧ H a = some (.lst vs) ∧ RVs w vs xs := by
  cases t with
  | ol ys =>
    cases h
    obtain ⟨a, vs, e, h, rs, _⟩ := q
    exact ⟨a, vs, e, h, rs⟩
  | d x =>
    cases x with
    | lst ys =>
      cases h
      cases q with
      | lst h rs => exact ⟨_, _, rfl, r.same _ _ h, rs⟩
    | ref n =>
      have h : (match s.hp[n]? with | some (.lst xs) => some xs | _ => none) = some xs := h
      cases e : s.hp[n]? with
      | none => rw [e] at h; cases h
      | some o =>
        rw [e] at h
        cases o with
        | dct _ => cases h
        | lst ys =>
          cases h
          cases q with
          | ref hi =>
            obtain ⟨a, e1, _, vs, e2, rs⟩ := r.hp.at_ n _ e
            rw [hi] at e1
            cases e1
            exact ⟨_, vs, rfl, e2, rs⟩
    | _ => cases h
theorem st_extend {m : M T} {i : Nat} (h : tSt F W (bind (isOl i) fun _ => bind m fun t => fun s => match slot s i, lstOf s.hp t with
    | some (.ol xs), some ys => if xs.length + ys.length < big then .ok .nx (setSl s i (some (.ol (xs ++ ys)))) else .bad
    | _, _ => .bad) De σ H) : tDrop (tBM K "list" rExtend (tVar i) (tCons (tE F W m) tNil)) De σ H := by
  obtain ⟨w, s, r, h⟩ := h
  obtain ⟨xs0, e0, h⟩ := isOl_some (wp_bind h)
  obtain ⟨v0, e1, a, vs0, ev, hH, _, _, _⟩ := r.sl i _ e0
  subst ev
  refine ⟨.ref a, e1, .inl ⟨rfl, vs0, .inl (.inl hH)⟩, w, s, r, wp_mono (wp_bind h) (fun t s1 _ q => ?_) fun _ _ e => e⟩
  intro w1 H1 v a1 val n
  cases e2 : slot s1 i with
  | none => simp only [e2] at q; exact q.elim
  | some t2 =>
    cases t2 with
    | d x => simp only [e2] at q; exact q.elim
    | ol xs =>
      cases e5 : lstOf s1.hp t with
      | none => simp only [e2, e5] at q; exact q.elim
      | some ys =>
        simp only [e2, e5] at q
        by_cases hb : xs.length + ys.length < big
        · rw [if_pos hb] at q
          have e3 := slot_some e2
          obtain ⟨v1, e4, a', vs, ev, hH1, rs, _, _⟩ := a1.rel.sl i _ e3
          rw [e1] at e4
          cases e4
          cases ev
          obtain ⟨b, us, rfl, hb2, rs2⟩ := RT.lst a1.rel val.rt e5
          refine ⟨a, b, vs, us, rfl, rfl, hH1, hb2, by rw [rs.length, rs2.length]; exact Nat.le_of_lt (big_line hb), ?_⟩
          exact q w1 _ σ (a1.setOwn e3 e1 (rs.append rs2))
        · rw [if_neg hb] at q
          exact q.elim
theorem paired_app {α β : Type} {R : α → β → Prop} {xs : List α} {ys : List β} {x : α} {y : β} (h : Paired R xs ys) (k : R x y) : Paired R (xs ++ [x]) (ys ++ [y]) := by
  induction h with
  | nil => exact .cons k .nil
  | cons h _ ih => exact .cons h ih
theorem put_rel {ks : List (Key × V)} {kvs : List (Str × D)} {k : Str} {v : V} {d : D} (r : Paired (fun (p : Key × V) (q : Str × D) => p.1 = .inr q.1 ∧ RV w p.2 q.2) ks kvs) (rv : RV w v d) :
    Paired (fun (p : Key × V) (q : Str × D) => p.1 = .inr q.1 ∧ RV w p.2 q.2) (putK ks (.inr k) v) (kPut kvs k d) := by
  have same : ∀ (p : Key) (q : Str), p = .inr q → (decide (p = (.inr k : Key))) = (q == k) := fun p q e => by
    subst e
    by_cases z : q = k
    · subst z; simp
    · simp [z]
  have e : (ks.any fun kv => decide (kv.1 = .inr k)) = kvs.any fun q => q.1 == k := by
    induction r with
    | nil => rfl
    | cons h _ ih => rw [List.any_cons, List.any_cons, ih, same _ _ h.1]
  have m : Paired (fun (p : Key × V) (q : Str × D) => p.1 = .inr q.1 ∧ RV w p.2 q.2) (ks.map fun kv => if kv.1 = .inr k then (kv.1, v) else kv) (kvs.map fun q => if q.1 == k then (q.1, d) else q) := by
    clear e
    induction r with
    | nil => exact .nil
    | @cons p q ps qs h t ih =>
      refine .cons ?_ ih
      have e := same _ _ h.1
      show (if p.1 = .inr k then (p.1, v) else p).1 = .inr (if q.1 == k then (q.1, d) else q).1 ∧ RV w (if p.1 = .inr k then (p.1, v) else p).2 (if q.1 == k then (q.1, d) else q).2
      by_cases z : q.1 == k
      · rw [z, decide_eq_true_eq] at e
        rw [if_pos e, if_pos z]
        exact ⟨h.1, rv⟩
      · have z' : (q.1 == k) = false := by simpa using z
        rw [z', decide_eq_false_iff_not] at e
        rw [if_neg e, if_neg z]
        exact h
  unfold putK kPut
  rw [e]
  split
  · exact m
  · exact paired_app r ⟨rfl, rv⟩
theorem st_hput {mo mk m : M T} (h : tSt F W (bind m fun t => bind (needD t) fun d => bind mo fun a => bind mk fun b => fun s => match a, b with
    | .d (.ref n), .d (.str z) => match s.hp[n]? with
      | some (.dct kvs) => if kvs.length < 1000 then .ok .nx ⟨s.sl, s.hp.set n (.dct (kPut kvs z d))⟩ else .bad
      | _ => .bad
    | _, _ => .bad) De σ H) : sDPut (tE F W mo) (tE F W mk) (tE F W m) De σ H := by
  obtain ⟨w, s, r, h⟩ := h
  refine ⟨w, s, r, wp_mono (wp_bind h) (fun t s1 _ q => ?_) fun _ _ e => e⟩
  intro w1 H1 v a1 val n
  have q := wp_needD (wp_bind q)
  obtain ⟨w2, a2, l2, r2, _⟩ := a1.freeze val n
  refine ⟨w2, s1, a2.rel, wp_mono (wp_bind q) (fun to s3 _ q => ?_) fun _ _ e => e.from a2⟩
  intro w3 H3 vo a3 valo no
  refine ⟨w3, s3, a3.rel, wp_mono (wp_bind q) (fun tk s4 _ q => ?_) fun _ _ e => (e.from a2).from a3⟩
  intro w4 H4 vk a4 valk nk
  have no : ∀ {x y : T} {dd : D}, wp ((match x, y with
    | .d (.ref n), .d (.str z) => match s4.hp[n]? with
      | some (.dct kvs) => if kvs.length < 1000 then R.ok O.nx ⟨s4.sl, s4.hp.set n (.dct (kPut kvs z dd))⟩ else .bad
      | _ => .bad
    | _, _ => .bad)) (finO F De w s σ H) (Exc F W w s σ H) → ∃ n z kvs, x = .d (.ref n) ∧ y = .d (.str z) ∧ s4.hp[n]? = some (.dct kvs) ∧ kvs.length < 1000 ∧ finO F De w s σ H .nx ⟨s4.sl, s4.hp.set n (.dct (kPut kvs z dd))⟩ := by
    intro x y dd q
    split at q
    · split at q
      · split at q
        · exact ⟨_, _, _, rfl, rfl, by assumption, by assumption, q⟩
        · exact q.elim
      · exact q.elim
    · exact q.elim
  obtain ⟨n', z, kvs, rfl, rfl, e5, hz, q⟩ := no q
  have valo := valo.keep a4
  have ro : RV w4 vo (.ref n') := valo.rt
  have rk : RV w4 vk (.str z) := valk.rt
  cases ro with
  | ref hi =>
    cases rk
    obtain ⟨a, e6, _, ks, e7, rs⟩ := a4.rel.hp.at_ n' _ e5
    rw [hi] at e6
    cases e6
    have hl : ks.length < sizeLine := by
      have := rs.length
      rw [this]
      exact Nat.lt_of_lt_of_le hz (by decide)
    refine ⟨_, _, rfl, DPut.k (k := .inr z) e7 hl, ?_⟩
    exact q w4 _ σ (((a2.trans a3).trans a4).setRef e5 hi ⟨_, upd_same, put_rel rs (RV.mono (a3.trans a4).le r2)⟩)
theorem st_happend {mo m : M T} (h : tSt F W (bind mo fun a => bind (isLref a) fun _ => bind m fun t => bind (needD t) fun d => fun s => match a with
    | .d (.ref n) => match s.hp[n]? with
      | some (.lst xs) => if xs.length < big then .ok .nx ⟨s.sl, s.hp.set n (.lst (xs ++ [d]))⟩ else .bad
      | _ => .bad
    | _ => .bad) De σ H) : tDrop (tBM K "list" rAppend (tE F W mo) (tCons (tE F W m) tNil)) De σ H := by
  obtain ⟨w, s, r, h⟩ := h
  refine ⟨w, s, r, wp_mono (wp_bind h) (fun to s1 _ q => ?_) fun _ _ e => e⟩
  intro w1 H1 vo a1 valo no
  obtain ⟨u, e1, q⟩ := wp_see (wp_bind q)
  have no1 : ∃ n xs, to = .d (.ref n) ∧ s1.hp[n]? = some (.lst xs) := by
    split at e1
    · split at e1
      · exact ⟨_, _, rfl, by assumption⟩
      · cases e1
    · cases e1
  obtain ⟨n', xs0, rfl, e2⟩ := no1
  have ro : RV w1 vo (.ref n') := valo.rt
  cases ro with
  | @ref a _ hi =>
    obtain ⟨a', e3, _, vs0, e4, _⟩ := a1.rel.hp.at_ n' _ e2
    rw [hi] at e3
    cases e3
    refine ⟨.inl ⟨rfl, vs0, .inl (.inl e4)⟩, w1, s1, a1.rel, wp_mono (wp_bind q) (fun t s2 _ q => ?_) fun _ _ e => e.from a1⟩
    intro w2 H2 v a2 val n
    have q := wp_needD (wp_bind q)
    obtain ⟨w3, a3, l3, r3, _⟩ := a2.freeze val n
    dsimp only at q
    cases e5 : s2.hp[n']? with
    | none => simp only [e5] at q; exact q.elim
    | some x =>
      cases x with
      | dct _ => simp only [e5] at q; exact q.elim
      | lst xs =>
        simp only [e5] at q
        by_cases hb : xs.length < big
        · rw [if_pos hb] at q
          obtain ⟨a', e6, _, vs, e7, rs⟩ := a3.rel.hp.at_ n' _ e5
          have hi3 := a3.le.ix hi
          rw [hi3] at e6
          cases e6
          refine ⟨_, vs, v, rfl, rfl, e7, by rw [rs.length]; exact big_line hb, ?_⟩
          exact q w3 _ σ ((a1.trans a3).setRef e5 hi3 ⟨_, upd_same, rs.snoc r3⟩)
        · rw [if_neg hb] at q
          exact q.elim
theorem st_expr {m : M T} (h : tSt F W (bind m fun _ => ret .nx) De σ H) : tDrop (tE F W m) De σ H := by
  obtain ⟨w, s, r, h⟩ := h
  refine ⟨w, s, r, wp_mono (wp_bind h) (fun t s1 _ q => ?_) fun _ _ e => e⟩
  intro w1 H1 v a1 _ _
  exact q w1 H1 σ a1
theorem st_if {c : M Bool} {a b : M O} (h : tSt F W (bind c fun t => if t then a else b) De σ H) : tIfS (tB F W c) (tSt F W a) (tSt F W b) De σ H := by
  obtain ⟨w, s, r, h⟩ := h
  refine ⟨w, s, r, wp_mono (wp_bind h) (fun t s1 _ q => ?_) fun _ _ e => e⟩
  intro w1 H1 a1
  cases t with
  | true => exact ⟨w1, s1, a1.rel, wp_mono q (fun _ _ _ z => z.from a1) fun _ _ z => z.from a1⟩
  | false => exact ⟨w1, s1, a1.rel, wp_mono q (fun _ _ _ z => z.from a1) fun _ _ z => z.from a1⟩
theorem st_ret {m : M T} (h : tSt F W (bind m fun t => ret (.rt t)) De σ H) : tRet (tE F W m) De σ H := by
  obtain ⟨w, s, r, h⟩ := h
  refine ⟨w, s, r, wp_mono (wp_bind h) (fun t s1 _ q => ?_) fun _ _ e => e⟩
  intro w1 H1 v a1 val n
  exact q w1 H1 σ a1 v val n
theorem st_retN (h : tSt F W (ret (.rt (.d .non))) De σ H) : tRetN De σ H := by
  obtain ⟨w, s, r, h⟩ := h
  exact h w H σ (At.refl r) .non (Val.d .non) NewT.d
theorem st_brk (h : tSt F W (ret .bk) De σ H) : tBreak De σ H := by
  obtain ⟨w, s, r, h⟩ := h
  exact h w H σ (At.refl r)
theorem st_cont (h : tSt F W (ret .ct) De σ H) : tCont De σ H := by
  obtain ⟨w, s, r, h⟩ := h
  exact h w H σ (At.refl r)
theorem st_raise {c : Nat} (h : tSt F W (fun s => .ex c s.hp) De σ H) : W (F.cv c) none σ H := by
  obtain ⟨w, s, r, h⟩ := h
  exact h w H (Le.refl _) r.none Fr.refl (fun _ z => z) σ
/-- a ghost: an own list is from now on only looked at -/
theorem st_freeze {i : Nat} {m : M O} (h : tSt F W (bind (fun s => match slot s i with
    | some (.ol xs) => R.ok O.nx (setSl s i (some (.d (.lst xs))))
    | _ => .bad) fun o => match o with | O.nx => m | o => ret o) De σ H) : tSt F W m De σ H := by
  obtain ⟨w, s, r, h⟩ := h
  have h := wp_bind h
  cases e1 : slot s i with
  | none => simp only [e1] at h; exact h.elim
  | some t =>
    cases t with
    | d x => simp only [e1] at h; exact h.elim
    | ol xs =>
      simp only [e1] at h
      have h : wp (m (setSl s i (some (.d (.lst xs))))) (finO F De w s σ H) (Exc F W w s σ H) := h
      have e0 := slot_some e1
      obtain ⟨v, e2, a, vs, ev, hH, rs, hi, hm⟩ := r.sl i _ e0
      subst ev
      have hlt : i < s.sl.length := (List.getElem?_eq_some_iff.mp e0).1
      have at_ : ∀ (j : Nat) (u : T), (s.sl.set i (some (.d (.lst xs))))[j]? = some (some u) → (j = i ∧ u = .d (.lst xs)) ∨ (j ≠ i ∧ s.sl[j]? = some (some u)) := fun j u z => by
        by_cases hj : i = j
        · subst hj
          rw [List.getElem?_set_self hlt] at z
          cases z
          exact .inl ⟨rfl, rfl⟩
        · rw [List.getElem?_set_ne hj] at z
          exact .inr ⟨fun q => hj q.symm, z⟩
      have l : Le w ⟨upd w.I a (.lst vs), w.ι⟩ := ⟨same_new hi, [], by simp⟩
      have r2 : Rel F.T0 ⟨upd w.I a (.lst vs), w.ι⟩ (setSl s i (some (.d (.lst xs)))) σ H := by
        refine ⟨fun b x e => ?_, ?_, fun j u e => ?_, fun j k c t u z1 z2 o1 o2 y1 y2 => ?_, ⟨r.hp.len, r.hp.nd, fun n x e => ?_⟩, r.tabs, fun b ps e => ?_⟩
        rotate_right
        · have e : upd w.I a (.lst vs) b = some (.tbl ps) := e
          by_cases hb : b = a
          · subst hb
            rw [upd_same] at e
            cases e
          · rw [upd_ne hb] at e
            exact r.nt b ps e
        · have e : upd w.I a (.lst vs) b = some x := e
          by_cases hb : b = a
          · subst hb
            rw [upd_same] at e
            cases e
            exact hH
          · rw [upd_ne hb] at e
            exact r.same _ _ e
        · show (s.sl.set i _).length = _
          rw [List.length_set]
          exact r.len
        · rcases at_ j u e with ⟨rfl, rfl⟩ | ⟨hj, e⟩
          · exact ⟨_, e2, RV.lst upd_same (RVs.mono l rs)⟩
          · obtain ⟨v, y1, q⟩ := r.sl j u e
            refine ⟨v, y1, ?_⟩
            cases u with
            | d x => exact RV.mono l q
            | ol ys =>
              obtain ⟨c, us, ev, h, q1, q2, q3⟩ := q
              have : c ≠ a := fun z => by
                subst z
                exact hj (r.dis j i c _ _ e e0 rfl rfl (by rw [y1, ev]) e2)
              refine ⟨c, us, ev, h, RVs.mono l q1, ?_, q3⟩
              show upd w.I a _ c = none
              rw [upd_ne this]
              exact q2
        · rcases at_ j t z1 with ⟨_, rfl⟩ | ⟨_, x1⟩
          · cases o1
          · rcases at_ k u z2 with ⟨_, rfl⟩ | ⟨_, x2⟩
            · cases o2
            · exact r.dis j k c t u x1 x2 o1 o2 y1 y2
        · obtain ⟨c, y1, y2, q⟩ := r.hp.at_ n x e
          refine ⟨c, y1, ?_, q.mono l⟩
          have : c ≠ a := fun z => hm (by rw [← z]; exact List.mem_of_getElem? y1)
          show upd w.I a _ c = none
          rw [upd_ne this]
          exact y2
      have b : At F.T0 w s σ H ⟨upd w.I a (.lst vs), w.ι⟩ (setSl s i (some (.d (.lst xs)))) σ H := by
        refine ⟨l, r2, fun c x e n i' m no => ⟨e, ?_, m⟩, fun _ z => z, fun c ⟨j, u, z1, z2, z3⟩ => ?_⟩
        · have : c ≠ a := fun z => by
            subst z
            exact no ⟨i, _, e0, rfl, e2⟩
          show upd w.I a _ c = none
          rw [upd_ne this]
          exact i'
        · rcases at_ j u z1 with ⟨_, rfl⟩ | ⟨_, x1⟩
          · cases z2
          · exact .inl ⟨j, u, x1, z2, z3⟩
      exact ⟨_, _, r2, wp_mono h (fun _ _ _ z => z.from b) fun _ _ z => z.from b⟩

/-! ### loops -/
theorem st_while {c : M Bool} {b : M O} {n : Nat} (h : tSt F W (whileM c b n) De σ H) : tWhile (tB F W c) (tSt F W b) De σ H := by
  obtain ⟨w, s, r, h⟩ := h
  refine ⟨fun m σ' H' => ∃ w1 s1, At F.T0 w s σ H w1 s1 σ' H' ∧ wp (whileM c b m s1) (finO F De w s σ H) (Exc F W w s σ H), ⟨n, w, s, At.refl r, h⟩, ?_⟩
  rintro m σ1 H1 ⟨w1, s1, a1, q⟩
  cases m with
  | zero => exact q.elim
  | succ m =>
    have q : wp (bind c (fun t => if t then bind b fun o => match o with
      | .nx => whileM c b m
      | .ct => whileM c b m
      | .bk => ret .nx
      | .rt t => ret (.rt t) else ret .nx) s1) (finO F De w s σ H) (Exc F W w s σ H) := q
    refine ⟨w1, s1, a1.rel, wp_mono (wp_bind q) (fun t s2 _ q => ?_) fun _ _ z => z.from a1⟩
    intro w2 H2 a2
    cases t with
    | false => exact q w2 H2 σ1 (a1.trans a2)
    | true =>
      refine ⟨fun σ' H' => ∃ w1 s1, At F.T0 w s σ H w1 s1 σ' H' ∧ wp (whileM c b m s1) (finO F De w s σ H) (Exc F W w s σ H), fun σ' H' z => ⟨m, Nat.lt_succ_self m, z⟩, ?_⟩
      refine ⟨w2, s2, a2.rel, wp_mono (wp_bind q) (fun o s3 _ q => ?_) fun _ _ z => (z.from a1).from a2⟩
      intro w3 H3 σ3 a3
      have A := (a1.trans a2).trans a3
      cases o with
      | nx => exact ⟨w3, s3, A, q⟩
      | ct => exact ⟨w3, s3, A, q⟩
      | bk => exact q w3 H3 σ3 A
      | rt t => exact fun v val n => q w3 H3 σ3 A v val ((a1.trans a2).newT n)
theorem st_for {sr : M (List D)} {g : G} {b : M O} (h : tSt F W (bind sr fun xs => forM (fun x => bind (G.put g (.d x)) fun _ => b) xs) De σ H) : tFor (tS F W false sr) (gR K g) (tSt F W b) De σ H := by
  obtain ⟨w, s, r, h⟩ := h
  refine ⟨w, s, r, wp_mono (wp_bind h) (fun xs s1 _ q => ?_) fun _ _ e => e⟩
  intro w1 H1 J a1 hJ
  let P : Nat → L2.St → Hp → Prop := fun i σ' H' => ∃ w2 s2, At F.T0 w1 s1 σ H1 w2 s2 σ' H' ∧ wp (forM (fun x => bind (G.put g (.d x)) fun _ => b) (xs.drop i) s2) (finO F De w s σ H) (Exc F W w s σ H)
  refine ⟨fun i m σ' H' => m = xs.length - i ∧ i ≤ xs.length ∧ P i σ' H', ⟨xs.length, by omega, Nat.zero_le _, w1, s1, At.refl a1.rel, q⟩, ?_⟩
  rintro i m σ2 H2 ⟨rfl, hi, w2, s2, a2, q⟩
  have hw := hJ w2 s2 σ2 H2 a2 (fun z => nomatch z)
  by_cases hlt : i < xs.length
  · refine .inr ⟨hw.goes i hlt, P (i + 1), fun σ' H' p => ⟨xs.length - (i + 1), by omega, rfl, by omega, p⟩, fun v H' hy => ?_⟩
    obtain ⟨rfl, d, ed, rd⟩ := hw.yields i v H' hlt hy
    rw [List.drop_eq_getElem_cons hlt] at q
    have exd : xs[i] = d := by
      rw [List.getElem?_eq_getElem hlt] at ed
      exact Option.some.inj ed
    rw [exd] at q
    have q : wp (bind (bind (G.put g (.d d)) fun _ => b) (fun o => match o with
      | .nx => forM (fun x => bind (G.put g (.d x)) fun _ => b) (xs.drop (i + 1))
      | .ct => forM (fun x => bind (G.put g (.d x)) fun _ => b) (xs.drop (i + 1))
      | .bk => ret .nx
      | .rt t => ret (.rt t)) s2) (finO F De w s σ H) (Exc F W w s σ H) := q
    obtain ⟨s3, e3, q⟩ := wp_put (wp_bind (wp_bind q))
    refine put_ok g s2 σ2 v (.d d) a2 (Val.d rd) NewT.d s3 e3 _ fun σ3 b3 _ => ?_
    refine ⟨w2, s3, b3.rel, wp_mono q (fun o s4 _ q => ?_) fun _ _ z => z.from (a1.trans b3)⟩
    intro w4 H4 σ4 a4
    have A := b3.trans a4
    cases o with
    | nx => exact ⟨w4, s4, A, q⟩
    | ct => exact ⟨w4, s4, A, q⟩
    | bk => exact q w4 H4 σ4 (a1.trans A)
    | rt t => exact fun v val n => q w4 H4 σ4 (a1.trans A) v val ((a1.trans b3).newT n)
  · have e : xs.drop i = [] := List.drop_eq_nil_of_le (by omega)
    rw [e] at q
    have ei : i = xs.length := by omega
    subst ei
    exact .inl ⟨hw.stops, q w2 H2 σ2 (a1.trans a2)⟩
end
end PL
end
section
set_option linter.all false
set_option maxRecDepth 100000
set_option maxHeartbeats 4000000
/-! PL10: the program's text beside the little language: views, operations. -/
namespace PL
open PySem PySem.Spec PyProof.Rows L2

/-- what stands behind names -/
structure Bnd where
  N : List Str
  gc : List (Str × D)
  fn : List (Str × Nat)
  exc : List (Str × Nat)
  told : List (Str × Nat)

/-! ### small facts of the text -/
def notStar : Expr → Bool
  | .Starred _ _ => false
  | _ => true
def notSlice : Expr → Bool
  | .Slice _ _ _ _ => false
  | .Tuple _ _ _ => false
  | _ => true
def attrPlain : Expr → Bool
  | .Call (.Name _ _) [] [] _ => false
  | _ => true
def plainT : Expr → Bool
  | .Name _ _ => true
  | .Call _ _ _ _ => true
  | .Subscript _ _ _ => true
  | _ => false
theorem star_cons {e : Expr} (h : notStar e = true) (es : List Expr) (env : Env) : starEach (e :: es) env = (false, eval e env) :: starEach es env := by
  cases e <;> first | rfl | cases h
theorem star_any {env : Env} {pos : Pos} : ∀ {es : List Expr}, es.all notStar = true → (backTo pos (starEach es env)).any (·.1) = false
  | [], _ => rfl
  | e :: es, h => by
    simp only [List.all_cons, Bool.and_eq_true] at h
    rw [star_cons h.1]
    show (false || (backTo pos (starEach es env)).any (·.1)) = false
    rw [star_any h.2]
    rfl
theorem attr_base {o : Expr} (h : attrPlain o = true) (name : Str) (env : Env) : attributeBase o name env (eval o env) = eval o env := by
  cases o with
  | Call f as kws pos =>
    cases f <;> first
      | rfl
      | (cases as with
         | nil => (cases kws with
           | nil => cases h
           | cons _ _ => rfl)
         | cons _ _ => rfl)
  | _ => rfl
theorem plainT_is {e : Expr} (h : plainT e = true) (env : Env) : ∀ whole, isTrue e env whole = (do let v ← whole; standAt e.pos; holding [v] (truthy v)) := by
  cases e <;> first | (intro _; rfl) | cases h
theorem plain_ix {b : Expr} (h : notSlice b = true) : PlainIx b := by
  intro o i
  cases b <;> first | rfl | cases h

/-! ### the context of the text -/
structure Cok (F : Fx) (C : Ctx) (n : Nat) (B : Bnd) (sc : Scope) (W : WX) (X : Cx) : Prop where
  hN : X.N = B.N
  nd : B.N.Nodup
  hsc : X.env.scope = sc
  room : Room (3 * n) X.A
  calm : X.calm = true
  tk : Takes X W
  bl : ∀ x ∈ (["len", "abs", "int", "sum", "tuple", "sorted", "range"] : List Str), X.mg x = none
  gc : ∀ x d, B.gc.lookup x = some d → ∃ v u, X.mg x = some u ∧ RelV v u ∧ ∀ w, RV w v d
  fns : ∀ x f, B.fn.lookup x = some f → ∃ g fd ps, FnOk X.prog X.w X.K X.mg X.base (L2.CX X.prog X.w) (3 * n) g fd ps (spec F (C.call f)) ∧ X.mg x = some (.ref g) ∧ PySem.W.keepIn X.K (.ref g) = true ∧ Binds X.K fd ps []

/-- the i-th name, seen here -/
def visB (B : Bnd) (sc : Scope) (i : Nat) (x : Str) : Bool :=
  decide (B.N[i]? = some x) && (match sc.names.lookup x with | some .local => true | some .cell => true | some .free => true | _ => false) && !(x == ("__debug__" : Str)) && !(x == ("__classdict__" : Str))
/-- dl: in a def's own block -/
def locB (B : Bnd) (dl : Bool) (sc : Scope) (i : Nat) (x : Str) : Bool :=
  decide (B.N[i]? = some x) && (match sc.names.lookup x with | some .local => true | some .cell => dl | _ => false)
def glB (sc : Scope) (x : Str) : Bool := decide (sc.names.lookup x = some .globalImplicit) && !(x == ("__debug__" : Str)) && !(x == ("__name__" : Str))
section
variable {F : Fx} {C : Ctx} {n : Nat} {B : Bnd} {sc : Scope} {W : WX} {X : Cx} {ro : Bool}
theorem Cok.gl (c : Cok F C n B sc W X) {x : Str} (h : glB sc x = true) : Gl X x ∧ (x == ("__debug__" : Str)) = false ∧ x ≠ "__name__" := by
  unfold glB at h
  simp only [Bool.and_eq_true, decide_eq_true_eq, Bool.not_eq_true', beq_eq_false_iff_ne] at h
  refine ⟨?_, by simpa using h.1.2, h.2⟩
  show X.env.scope.names.lookup x = some .globalImplicit
  rw [c.hsc]
  exact h.1.1
theorem Cok.vis (c : Cok F C n B sc W X) {i : Nat} {x : Str} (h : visB B sc i x = true) (pos : Pos) : PE X (.Name x pos) (tVar i) := by
  unfold visB at h
  simp only [Bool.and_eq_true, decide_eq_true_eq, Bool.not_eq_true'] at h
  refine pe_var (by rw [c.hN]; exact h.1.1.1) ?_ h.1.2 h.2
  have h2 := h.1.1.2
  unfold Vis
  rw [c.hsc]
  split at h2 <;> first | exact .inl (by assumption) | exact .inr (.inl (by assumption)) | exact .inr (.inr (by assumption)) | cases h2
theorem Cok.loc (c : Cok F C n B sc W X) {dl : Bool} (hF : dl = true → ∀ x, X.fn x = true) {i : Nat} {x : Str} (h : locB B dl sc i x = true) : X.N[i]? = some x ∧ Loc X.env.scope x ∧ (X.fn x = true ∨ X.env.scope.names.lookup x = some .local) := by
  unfold locB at h
  simp only [Bool.and_eq_true, decide_eq_true_eq] at h
  rw [c.hN, c.hsc]
  refine ⟨h.1, ?_⟩
  have h2 := h.2
  split at h2
  · rename_i e
    exact ⟨.inl e, .inr e⟩
  · rename_i e
    exact ⟨.inr e, .inl (hF h2 x)⟩
  · cases h2

/-! ### operands -/
theorem tAv_mono {m : M Av} {σ : L2.St} {H : Hp} {Q Q' : VK} (h : tAv F W m σ H Q) (k : ∀ v H, Q v H → Q' v H) : tAv F W m σ H Q' := by
  obtain ⟨w, s, r, h⟩ := h
  exact ⟨w, s, r, wp_mono h (fun _ _ _ q w' H' v a ok nn => k _ _ (q w' H' v a ok nn)) fun _ _ e => e⟩
/-- the reading of an operand -/
abbrev tOpd (F : Fx) (W : WX) (C : Ctx) (ro : Bool) (e : E) : TE := tAv F W (avOf e (E.ev C ro e))
theorem pe_opd {e : E} {x : Expr} (h : PE X x (tE F W (E.ev C ro e))) (hv : ∀ i, e = .var i → PE X x (tVar i)) : PE X x (tOpd F W C ro e) := by
  cases e with
  | var i => exact (hv i rfl).wk fun σ H Q q => tAv_var q
  | _ => exact h.wk fun σ H Q q => tAv_val q
inductive AvL (F : Fx) (W : WX) (C : Ctx) (ro : Bool) (X : Cx) : List E → List Expr → Prop where
  | nil : AvL F W C ro X [] []
  | cons {e : E} {x : Expr} {es : List E} {xs : List Expr} : PE X x (tOpd F W C ro e) → AvL F W C ro X es xs → AvL F W C ro X (e :: es) (x :: xs)
theorem AvL.two {es : List E} {a b : Expr} (h : AvL F W C ro X es [a, b]) : ∃ d e, es = [d, e] ∧ PE X a (tOpd F W C ro d) ∧ PE X b (tOpd F W C ro e) := by
  cases h with
  | cons h1 h =>
    cases h with
    | cons h2 h =>
      cases h
      exact ⟨_, _, rfl, h1, h2⟩
theorem AvL.one {es : List E} {a : Expr} (h : AvL F W C ro X es [a]) : ∃ d, es = [d] ∧ PE X a (tOpd F W C ro d) := by
  cases h with
  | cons h1 h =>
    cases h
    exact ⟨_, rfl, h1⟩
theorem AvL.three {es : List E} {a b c : Expr} (h : AvL F W C ro X es [a, b, c]) : ∃ d e f, es = [d, e, f] ∧ PE X a (tOpd F W C ro d) ∧ PE X b (tOpd F W C ro e) ∧ PE X c (tOpd F W C ro f) := by
  cases h with
  | cons h1 h =>
    obtain ⟨e, f, rfl, h2, h3⟩ := h.two
    exact ⟨_, e, f, rfl, h1, h2, h3⟩

/-! ### views -/
def binX (op : Operator) : Expr → Option (List Expr)
  | .BinOp a o b _ => if o = op then some [a, b] else none
  | _ => none
def cmpX (op : CmpOp) : Expr → Option (List Expr)
  | .Compare a [o] [b] _ => if o = op ∧ behindInMarks op b = false then some [a, b] else none
  | _ => none
def nonX (op : CmpOp) : Expr → Option (List Expr)
  | .Compare a [o] [.Constant .none _ _] _ => if o = op then some [a] else none
  | _ => none
def negX : Expr → Option (List Expr)
  | .UnaryOp .USub a _ => some [a]
  | _ => none
def idxX : Expr → Option (List Expr)
  | .Subscript a b _ => if notSlice b then some [a, b] else none
  | _ => none
def slX : Bool → Bool → Expr → Option (List Expr)
  | false, false, .Subscript a (.Slice none none none _) _ => some [a]
  | true, false, .Subscript a (.Slice (some b) none none _) _ => some [a, b]
  | false, true, .Subscript a (.Slice none (some c) none _) _ => some [a, c]
  | _, _, _ => none
def callX (sc : Scope) (name : Str) : Expr → Option (List Expr)
  | .Call (.Name x _) [a] [] _ => if x = name ∧ glB sc x = true ∧ notStar a = true then some [a] else none
  | _ => none
def joinX : Expr → Option (List Expr)
  | .Call (.Attribute o name apos) [a] [] pos => if name = "join" ∧ attrPlain o = true ∧ (apos.endLine == pos.line) = true ∧ notStar a = true then some [o, a] else none
  | _ => none
def primX (sc : Scope) : P → Expr → Option (List Expr)
  | .add, x => binX .Add x
  | .sub, x => binX .Sub x
  | .mul, x => binX .Mult x
  | .fdiv, x => binX .FloorDiv x
  | .mod, x => binX .Mod x
  | .pow, x => binX .Pow x
  | .neg, x => negX x
  | .eq, x => cmpX .Eq x
  | .ne, x => cmpX .NotEq x
  | .lt, x => cmpX .Lt x
  | .le, x => cmpX .LtE x
  | .gt, x => cmpX .Gt x
  | .ge, x => cmpX .GtE x
  | .isN, x => nonX .Is x
  | .notN, x => nonX .IsNot x
  | .in_, x => cmpX .In x
  | .idx, x => idxX x
  | .sl a b, x => slX a b x
  | .len, x => callX sc "len" x
  | .int_, x => callX sc "int" x
  | .abs, x => callX sc "abs" x
  | .sum, x => callX sc "sum" x
  | .tuple, x => callX sc "tuple" x
  | .sorted, x => callX sc "sorted" x
  | .join, x => joinX x
  | _, _ => none
/-- a comparison, or a plain value: may stand as a test -/
def P.tst : P → Bool
  | .eq | .ne | .lt | .le | .gt | .ge | .isN | .notN | .in_ | .idx => true
  | _ => false

theorem binX_some {op : Operator} {x : Expr} {xs : List Expr} (h : binX op x = some xs) : ∃ a b pos, x = .BinOp a op b pos ∧ xs = [a, b] := by
  unfold binX at h
  split at h
  · split at h
    · rename_i e
      subst e
      cases h
      exact ⟨_, _, _, rfl, rfl⟩
    · cases h
  · cases h
theorem cmpX_some {op : CmpOp} {x : Expr} {xs : List Expr} (h : cmpX op x = some xs) : ∃ a b pos, x = .Compare a [op] [b] pos ∧ xs = [a, b] ∧ behindInMarks op b = false := by
  unfold cmpX at h
  split at h
  · split at h
    · rename_i e
      obtain ⟨rfl, e⟩ := e
      cases h
      exact ⟨_, _, _, rfl, rfl, e⟩
    · cases h
  · cases h
theorem nonX_some {op : CmpOp} {x : Expr} {xs : List Expr} (h : nonX op x = some xs) : ∃ a j p pos, x = .Compare a [op] [.Constant .none j p] pos ∧ xs = [a] := by
  unfold nonX at h
  split at h
  · split at h
    · rename_i e
      subst e
      cases h
      exact ⟨_, _, _, _, rfl, rfl⟩
    · cases h
  · cases h
theorem negX_some {x : Expr} {xs : List Expr} (h : negX x = some xs) : ∃ a pos, x = .UnaryOp .USub a pos ∧ xs = [a] := by
  unfold negX at h
  split at h
  · cases h
    exact ⟨_, _, rfl, rfl⟩
  · cases h
theorem idxX_some {x : Expr} {xs : List Expr} (h : idxX x = some xs) : ∃ a b pos, x = .Subscript a b pos ∧ xs = [a, b] ∧ notSlice b = true := by
  unfold idxX at h
  split at h
  · split at h
    · rename_i e
      cases h
      exact ⟨_, _, _, rfl, rfl, e⟩
    · cases h
  · cases h
theorem callX_some {name : Str} {x : Expr} {xs : List Expr} (h : callX sc name x = some xs) : ∃ a p pos, x = .Call (.Name name p) [a] [] pos ∧ xs = [a] ∧ glB sc name = true ∧ notStar a = true := by
  unfold callX at h
  split at h
  · split at h
    · rename_i e
      obtain ⟨rfl, e1, e2⟩ := e
      cases h
      exact ⟨_, _, _, rfl, rfl, e1, e2⟩
    · cases h
  · cases h
theorem joinX_some {x : Expr} {xs : List Expr} (h : joinX x = some xs) : ∃ o apos a pos, x = .Call (.Attribute o "join" apos) [a] [] pos ∧ xs = [o, a] ∧ attrPlain o = true ∧ (apos.endLine == pos.line) = true ∧ notStar a = true := by
  unfold joinX at h
  split at h
  · split at h
    · rename_i e
      obtain ⟨rfl, e1, e2, e3⟩ := e
      cases h
      exact ⟨_, _, _, _, rfl, rfl, e1, e2, e3⟩
    · cases h
  · cases h

/-! ### operations: as values -/
theorem ev2 {p : P} {d e : E} {σ : L2.St} {H : Hp} {Q : VK} (h : tE F W (E.ev C ro (.prim p [d, e])) σ H Q) : tOpd F W C ro d σ H fun x H1 => tOpd F W C ro e σ H1 fun y H2 => PrL F p [x, y] σ H2 Q := tE_prim2 h
theorem ev1 {p : P} {d : E} {σ : L2.St} {H : Hp} {Q : VK} (h : tE F W (E.ev C ro (.prim p [d])) σ H Q) : tOpd F W C ro d σ H fun x H1 => PrL F p [x] σ H1 Q := tE_prim1 h
theorem ev3 {p : P} {d e f : E} {σ : L2.St} {H : Hp} {Q : VK} (h : tE F W (E.ev C ro (.prim p [d, e, f])) σ H Q) : tOpd F W C ro d σ H fun x H1 => tOpd F W C ro e σ H1 fun y H2 => tOpd F W C ro f σ H2 fun z H3 => PrL F p [x, y, z] σ H3 Q := tE_prim3 h
theorem ev2r {p : P} {d e : E} {σ : L2.St} {H : Hp} {Q : VK} {r : R2} (hr : ∀ {x y : V} {σ : L2.St} {H : Hp} {Q : VK}, PrL F p [x, y] σ H Q → r x y H Q) (h : tE F W (E.ev C ro (.prim p [d, e])) σ H Q) : tOp r (tOpd F W C ro d) (tOpd F W C ro e) σ H Q :=
  tAv_mono (ev2 h) fun _ _ q => tAv_mono q fun _ _ q => hr q
theorem ev2t {p : P} {d e : E} {σ : L2.St} {H : Hp} {Q : Bool → Hp → Prop} {r : R2} (hr : ∀ {x y : V} {σ : L2.St} {H : Hp} {Q : VK}, PrL F p [x, y] σ H Q → r x y H Q) (h : tB F W (bind (avOf (.prim p [d, e]) (E.ev C ro (.prim p [d, e]))) truthAv) σ H Q) : tTest (tOp r (tOpd F W C ro d) (tOpd F W C ro e)) σ H Q :=
  ev2r hr (tAv_val (tB_of h))

variable (c : Cok F C n B sc W X)
include c
theorem mg_bl {x : Str} (h : x ∈ (["len", "abs", "int", "sum", "tuple", "sorted", "range"] : List Str)) : X.mg x = none := c.bl x h
theorem hu1 : X.A.units + 1 < cLine := Nat.lt_of_le_of_lt (Nat.add_le_add_left (by decide : 1 ≤ 64) _) c.room.units
omit c in
theorem tAv_cst {d : D} {σ : L2.St} {H : Hp} {Q : VK} (h : tAv F W (bind (ret (.d d)) fun t => ret (.t t)) σ H Q) : tAv F W (bind (ret (.d d)) fun t => ret (.t t)) σ H fun v H1 => (∃ w, RV w v d) ∧ Q v H1 := by
  obtain ⟨w, s, r, h⟩ := h
  have h : ∀ w' H' v, At F.T0 w s σ H w' s σ H' → AvOk w' s.sl σ H' v (.t (.d d)) → (∀ t, Av.t (.d d) = .t t → NewT s.sl σ H v t) → Q v H' := h
  refine ⟨w, s, r, ?_⟩
  intro w' H' v a ok nn
  have ok' : Val w' s.sl σ H' v (.d d) := ok
  exact ⟨⟨w', ok'.rt⟩, h w' H' v a ok nn⟩
omit c in
theorem slX_some {l u : Bool} {x : Expr} {xs : List Expr} (h : slX l u x = some xs) : ∃ a p pos, (l = false ∧ u = false ∧ x = .Subscript a (.Slice none none none p) pos ∧ xs = [a]) ∨
    (∃ b, l = true ∧ u = false ∧ x = .Subscript a (.Slice (some b) none none p) pos ∧ xs = [a, b]) ∨ (∃ b, l = false ∧ u = true ∧ x = .Subscript a (.Slice none (some b) none p) pos ∧ xs = [a, b]) := by
  unfold slX at h
  split at h
  · cases h
    exact ⟨_, _, _, .inl ⟨rfl, rfl, rfl, rfl⟩⟩
  · cases h
    exact ⟨_, _, _, .inr (.inl ⟨_, rfl, rfl, rfl, rfl⟩)⟩
  · cases h
    exact ⟨_, _, _, .inr (.inr ⟨_, rfl, rfl, rfl, rfl⟩)⟩
  · cases h
/-- an operation, as a value -/
theorem prim_ok {p : P} {es : List E} {x : Expr} {xs : List Expr} (h : primX sc p x = some xs) (hj : p = .join → ∃ z e, es = [.cst (.str z), e]) (a : AvL F W C ro X es xs) : PE X x (tE F W (E.ev C ro (.prim p es))) := by
  cases p with
  | add =>
    obtain ⟨l, r, pos, rfl, rfl⟩ := binX_some h
    obtain ⟨d, e, rfl, h1, h2⟩ := a.two
    exact (pe_op op_addA h1 h2).wk fun σ H Q q => ev2r pr_add q
  | sub =>
    obtain ⟨l, r, pos, rfl, rfl⟩ := binX_some h
    obtain ⟨d, e, rfl, h1, h2⟩ := a.two
    exact (pe_op op_sub h1 h2).wk fun σ H Q q => ev2r pr_sub q
  | mul =>
    obtain ⟨l, r, pos, rfl, rfl⟩ := binX_some h
    obtain ⟨d, e, rfl, h1, h2⟩ := a.two
    exact (pe_op op_mulA h1 h2).wk fun σ H Q q => ev2r pr_mul q
  | fdiv =>
    obtain ⟨l, r, pos, rfl, rfl⟩ := binX_some h
    obtain ⟨d, e, rfl, h1, h2⟩ := a.two
    exact (pe_op op_fdiv h1 h2).wk fun σ H Q q => ev2r pr_fdiv q
  | mod =>
    obtain ⟨l, r, pos, rfl, rfl⟩ := binX_some h
    obtain ⟨d, e, rfl, h1, h2⟩ := a.two
    exact (pe_op op_mod h1 h2).wk fun σ H Q q => ev2r pr_mod q
  | pow =>
    obtain ⟨l, r, pos, rfl, rfl⟩ := binX_some h
    obtain ⟨d, e, rfl, h1, h2⟩ := a.two
    exact (pe_op op_pow h1 h2).wk fun σ H Q q => ev2r pr_pow q
  | neg =>
    obtain ⟨l, pos, rfl, rfl⟩ := negX_some h
    obtain ⟨d, rfl, h1⟩ := a.one
    exact (pe_un un_neg h1).wk fun σ H Q q => tAv_mono (ev1 q) fun _ _ q => pr_neg q
  | eq =>
    obtain ⟨l, r, pos, rfl, rfl, hm⟩ := cmpX_some h
    obtain ⟨d, e, rfl, h1, h2⟩ := a.two
    exact (pe_cmpR (op_eqA c.room.units) h1 h2 hm).wk fun σ H Q q => ev2r pr_eq q
  | ne =>
    obtain ⟨l, r, pos, rfl, rfl, hm⟩ := cmpX_some h
    obtain ⟨d, e, rfl, h1, h2⟩ := a.two
    exact (pe_cmpR (op_neA c.room.units) h1 h2 hm).wk fun σ H Q q => ev2r pr_ne q
  | lt =>
    obtain ⟨l, r, pos, rfl, rfl, hm⟩ := cmpX_some h
    obtain ⟨d, e, rfl, h1, h2⟩ := a.two
    exact (pe_cmpR op_lt h1 h2 hm).wk fun σ H Q q => ev2r (pr_cmp fun _ _ _ => rfl) q
  | le =>
    obtain ⟨l, r, pos, rfl, rfl, hm⟩ := cmpX_some h
    obtain ⟨d, e, rfl, h1, h2⟩ := a.two
    exact (pe_cmpR op_le h1 h2 hm).wk fun σ H Q q => ev2r (pr_cmp fun _ _ _ => rfl) q
  | gt =>
    obtain ⟨l, r, pos, rfl, rfl, hm⟩ := cmpX_some h
    obtain ⟨d, e, rfl, h1, h2⟩ := a.two
    exact (pe_cmpR op_gt h1 h2 hm).wk fun σ H Q q => ev2r (pr_cmp fun _ _ _ => rfl) q
  | ge =>
    obtain ⟨l, r, pos, rfl, rfl, hm⟩ := cmpX_some h
    obtain ⟨d, e, rfl, h1, h2⟩ := a.two
    exact (pe_cmpR op_ge h1 h2 hm).wk fun σ H Q q => ev2r (pr_cmp fun _ _ _ => rfl) q
  | isN =>
    obtain ⟨l, j, p', pos, rfl, rfl⟩ := nonX_some h
    obtain ⟨d, rfl, h1⟩ := a.one
    exact (pe_cmpR op_isN h1 pe_non rfl).wk fun σ H Q q => tAv_mono (ev1 q) fun _ _ q => ⟨rfl, pr_isN q⟩
  | notN =>
    obtain ⟨l, j, p', pos, rfl, rfl⟩ := nonX_some h
    obtain ⟨d, rfl, h1⟩ := a.one
    exact (pe_cmpR op_notN h1 pe_non rfl).wk fun σ H Q q => tAv_mono (ev1 q) fun _ _ q => ⟨rfl, pr_notN q⟩
  | in_ =>
    obtain ⟨l, r, pos, rfl, rfl, hm⟩ := cmpX_some h
    obtain ⟨d, e, rfl, h1, h2⟩ := a.two
    exact (pe_cmpR op_in_seq h1 h2 hm).wk fun σ H Q q => ev2r pr_in q
  | idx =>
    obtain ⟨l, r, pos, rfl, rfl, hs⟩ := idxX_some h
    obtain ⟨d, e, rfl, h1, h2⟩ := a.two
    exact (pe_ix (ix_any (hu1 c)) h1 h2 (plain_ix hs)).wk fun σ H Q q => ev2r pr_idx q
  | len =>
    obtain ⟨l, p', pos, rfl, rfl, hg, hs⟩ := callX_some h
    obtain ⟨d, rfl, h1⟩ := a.one
    obtain ⟨g1, g2, g3⟩ := c.gl hg
    exact (pe_callB call_lenA g1 (c.bl _ (by simp)) (by decide +kernel) (pa_cons h1 pa_nil (star_cons hs _ _)) g3 g2 (star_cons hs _ _) rfl).wk fun σ H Q q => tAv_mono (ev1 q) fun _ _ q => pr_len q
  | int_ =>
    obtain ⟨l, p', pos, rfl, rfl, hg, hs⟩ := callX_some h
    obtain ⟨d, rfl, h1⟩ := a.one
    obtain ⟨g1, g2, g3⟩ := c.gl hg
    exact (pe_callTy call_int1 g1 (c.bl _ (by simp)) boot_int (pa_cons h1 pa_nil (star_cons hs _ _)) g3 g2 (star_cons hs _ _) rfl).wk fun σ H Q q => tAv_mono (ev1 q) fun _ _ q => pr_int_ q
  | abs =>
    obtain ⟨l, p', pos, rfl, rfl, hg, hs⟩ := callX_some h
    obtain ⟨d, rfl, h1⟩ := a.one
    obtain ⟨g1, g2, g3⟩ := c.gl hg
    exact (pe_callB call_abs g1 (c.bl _ (by simp)) (by decide +kernel) (pa_cons h1 pa_nil (star_cons hs _ _)) g3 g2 (star_cons hs _ _) rfl).wk fun σ H Q q => tAv_mono (ev1 q) fun _ _ q => pr_abs q
  | sum =>
    obtain ⟨l, p', pos, rfl, rfl, hg, hs⟩ := callX_some h
    obtain ⟨d, rfl, h1⟩ := a.one
    obtain ⟨g1, g2, g3⟩ := c.gl hg
    exact (pe_callB (cr_sum c.calm) g1 (c.bl _ (by simp)) (by decide +kernel) (pa_cons h1 pa_nil (star_cons hs _ _)) g3 g2 (star_cons hs _ _) rfl).wk fun σ H Q q => tAv_mono (ev1 q) fun _ _ q => pr_sum q
  | tuple =>
    obtain ⟨l, p', pos, rfl, rfl, hg, hs⟩ := callX_some h
    obtain ⟨d, rfl, h1⟩ := a.one
    obtain ⟨g1, g2, g3⟩ := c.gl hg
    exact (pe_callTy call_tuple_of g1 (c.bl _ (by simp)) boot_tuple (pa_cons h1 pa_nil (star_cons hs _ _)) g3 g2 (star_cons hs _ _) rfl).wk fun σ H Q q => tAv_mono (ev1 q) fun _ _ q => pr_tuple q
  | sorted =>
    obtain ⟨l, p', pos, rfl, rfl, hg, hs⟩ := callX_some h
    obtain ⟨d, rfl, h1⟩ := a.one
    obtain ⟨g1, g2, g3⟩ := c.gl hg
    exact (pe_callB cr_sortedZ g1 (c.bl _ (by simp)) (by decide +kernel) (pa_cons h1 pa_nil (star_cons hs _ _)) g3 g2 (star_cons hs _ _) rfl).wk fun σ H Q q => tAv_mono (ev1 q) fun _ _ q => pr_sorted q
  | join =>
    obtain ⟨o, apos, l, pos, rfl, rfl, ho, hline, hs⟩ := joinX_some h
    obtain ⟨z, e, rfl⟩ := hj rfl
    obtain ⟨d, e', he, h1, h2⟩ := a.two
    cases he
    refine (pe_join h1 h2 (by rw [star_cons hs]; rfl) (attr_base ho _ _) hline).wk fun σ H Q q => ?_
    refine tAv_mono (tAv_cst (ev2 q)) fun x H1 q => ?_
    obtain ⟨⟨w, rv⟩, q⟩ := q
    cases rv
    exact ⟨⟨_, rfl⟩, tAv_mono q fun y H2 q => pr_join q⟩
  | sl l u =>
    obtain ⟨b, p', pos, hh⟩ := slX_some h
    rcases hh with ⟨rfl, rfl, rfl, rfl⟩ | ⟨b', rfl, rfl, rfl, rfl⟩ | ⟨b', rfl, rfl, rfl, rfl⟩
    · obtain ⟨d, rfl, h1⟩ := a.one
      exact (pe_slice sl_any h1 po_none po_none).wk fun σ H Q q => tAv_mono (ev1 q) fun _ _ q => pr_sl0 q
    · obtain ⟨d, e, rfl, h1, h2⟩ := a.two
      exact (pe_slice sl_any h1 (po_some h2) po_none).wk fun σ H Q q => tAv_mono (ev2 q) fun _ _ q => tAv_mono q fun _ _ q => pr_sl1 q
    · obtain ⟨d, e, rfl, h1, h2⟩ := a.two
      exact (pe_slice sl_any h1 po_none (po_some h2)).wk fun σ H Q q => tAv_mono (ev2 q) fun _ _ q => tAv_mono q fun _ _ q => pr_sl2 q
  | any => cases h
  | all => cases h
  | list => cases h
  | notIn => cases h
  | isTup => cases h
/-- .. as a test -/
theorem primT_ok {p : P} {es : List E} {x : Expr} {xs : List Expr} (h : primX sc p x = some xs) (ht : p.tst = true) (a : AvL F W C ro X es xs) : PT X x (tB F W (bind (avOf (.prim p es) (E.ev C ro (.prim p es))) truthAv)) := by
  cases p <;> first | cases ht | skip
  case eq =>
    obtain ⟨l, r, pos, rfl, rfl, hm⟩ := cmpX_some h
    obtain ⟨d, e, rfl, h1, h2⟩ := a.two
    exact (pt_cmpR (op_eqA c.room.units) h1 h2 hm).wk fun σ H Q q => ev2t pr_eq q
  case ne =>
    obtain ⟨l, r, pos, rfl, rfl, hm⟩ := cmpX_some h
    obtain ⟨d, e, rfl, h1, h2⟩ := a.two
    exact (pt_cmpR (op_neA c.room.units) h1 h2 hm).wk fun σ H Q q => ev2t pr_ne q
  case lt =>
    obtain ⟨l, r, pos, rfl, rfl, hm⟩ := cmpX_some h
    obtain ⟨d, e, rfl, h1, h2⟩ := a.two
    exact (pt_cmpR op_lt h1 h2 hm).wk fun σ H Q q => ev2t (pr_cmp fun _ _ _ => rfl) q
  case le =>
    obtain ⟨l, r, pos, rfl, rfl, hm⟩ := cmpX_some h
    obtain ⟨d, e, rfl, h1, h2⟩ := a.two
    exact (pt_cmpR op_le h1 h2 hm).wk fun σ H Q q => ev2t (pr_cmp fun _ _ _ => rfl) q
  case gt =>
    obtain ⟨l, r, pos, rfl, rfl, hm⟩ := cmpX_some h
    obtain ⟨d, e, rfl, h1, h2⟩ := a.two
    exact (pt_cmpR op_gt h1 h2 hm).wk fun σ H Q q => ev2t (pr_cmp fun _ _ _ => rfl) q
  case ge =>
    obtain ⟨l, r, pos, rfl, rfl, hm⟩ := cmpX_some h
    obtain ⟨d, e, rfl, h1, h2⟩ := a.two
    exact (pt_cmpR op_ge h1 h2 hm).wk fun σ H Q q => ev2t (pr_cmp fun _ _ _ => rfl) q
  case isN =>
    obtain ⟨l, j, p', pos, rfl, rfl⟩ := nonX_some h
    obtain ⟨d, rfl, h1⟩ := a.one
    exact (pt_cmpR op_isN h1 pe_non rfl).wk fun σ H Q q => tAv_mono (ev1 (tAv_val (tB_of q))) fun _ _ q => ⟨rfl, pr_isN q⟩
  case notN =>
    obtain ⟨l, j, p', pos, rfl, rfl⟩ := nonX_some h
    obtain ⟨d, rfl, h1⟩ := a.one
    exact (pt_cmpR op_notN h1 pe_non rfl).wk fun σ H Q q => tAv_mono (ev1 (tAv_val (tB_of q))) fun _ _ q => ⟨rfl, pr_notN q⟩
  case in_ =>
    obtain ⟨l, r, pos, rfl, rfl, hm⟩ := cmpX_some h
    obtain ⟨d, e, rfl, h1, h2⟩ := a.two
    exact (pt_cmpR op_in_seq h1 h2 hm).wk fun σ H Q q => ev2t pr_in q
  case idx =>
    have h0 := prim_ok c h (fun z => nomatch z) a
    obtain ⟨l, r, pos, rfl, rfl, hs⟩ := idxX_some h
    exact (pt_val h0 (plainT_is rfl _)).wk fun σ H Q q => tAv_val (tB_of q)
end
end PL
end
section
set_option linter.all false
set_option maxRecDepth 100000
set_option maxHeartbeats 8000000
/-! PL11: the checker of expressions, and what it is good for. -/
namespace PL
open PySem PySem.Spec PyProof.Rows L2

/-! ### views -/
def nameX (B : Bnd) (sc : Scope) (i : Nat) : Expr → Bool
  | .Name x _ => visB B sc i x
  | _ => false
def popX (B : Bnd) (sc : Scope) (i : Nat) : Expr → Bool
  | .Call (.Attribute (.Name x _) m apos) [] [] cpos => decide (m = "pop") && visB B sc i x && (apos.endLine == cpos.line)
  | _ => false
def flatEq : D → D → Bool
  | .int i, .int j => i == j
  | .str x, .str y => decide (x = y)
  | .bl a, .bl b => a == b
  | .non, .non => true
  | _, _ => false
def constOf : Const → Option D
  | .int i => some (.int i)
  | .str x => if PyData.strOk x then some (.str x) else none
  | .bool b => some (.bl b)
  | .none => some .non
  | _ => none
def cstX (B : Bnd) (sc : Scope) (d : D) : Expr → Bool
  | .Constant k _ _ => (match constOf k with | some e => flatEq d e | none => false)
  | .Name x _ => glB sc x && (match B.gc.lookup x with | some e => flatEq d e | none => false)
  | _ => false
def tupX : Expr → Option (List Expr)
  | .Tuple es _ _ => some es
  | _ => none
def lstX : Expr → Option (List Expr)
  | .List es _ => some es
  | _ => none
def strIs (k : Str) : Expr → Bool
  | .Constant (.str x) _ _ => decide (k = x)
  | _ => false
def keysAre : List Str → List (Option Expr) → Bool
  | [], [] => true
  | k :: ks, some e :: r => strIs k e && keysAre ks r
  | _, _ => false
def dictX (ks : List Str) : Expr → Option (List Expr)
  | .Dict keys values _ => if keysAre ks keys = true ∧ ks.Nodup ∧ ks.length ≤ 15 ∧ ks ≠ [] ∧ ks.length = values.length then some values else none
  | _ => none
/-- a and (the rest) -/
def boolX (op : BoolOp) : Expr → Option (Expr × Expr)
  | .BoolOp o (a :: b :: rest) pos => if o = op then some (a, match rest with | [] => b | _ :: _ => .BoolOp op (b :: rest) pos) else none
  | _ => none
def notX : Expr → Option Expr
  | .UnaryOp .Not a _ => some a
  | _ => none
def ifX : Expr → Option (Expr × Expr × Expr)
  | .IfExp c a b _ => some (c, a, b)
  | _ => none
def chOp : P → Option CmpOp
  | .lt => some .Lt
  | .le => some .LtE
  | .gt => some .Gt
  | .ge => some .GtE
  | _ => none
def chainX (p q : P) : Expr → Option (Expr × Expr × Expr)
  | .Compare a [o, o'] [b, c] _ => if chOp p = some o ∧ chOp q = some o' then some (a, b, c) else none
  | _ => none
def callFX (B : Bnd) (sc : Scope) (f : Nat) : Expr → Option (List Expr)
  | .Call (.Name x _) es [] _ => if B.fn.lookup x = some f ∧ glB sc x = true then some es else none
  | _ => none
def noSet : Expr → Bool
  | .Set _ _ _ => false
  | _ => true
/-- elt, target, iter, ifs, scope -/
def compX : Expr → Option (Expr × Expr × Expr × List Expr × Scope)
  | .ListComp elt [⟨tg, iter, ifs, 0⟩] scope _ => if noSet iter then some (elt, tg, iter, ifs, scope) else none
  | _ => none
def rng1X (sc : Scope) : Expr → Option Expr
  | .Call (.Name x _) [a] [] _ => if x = "range" ∧ glB sc x = true ∧ notStar a = true then some a else none
  | _ => none
def rng2X (sc : Scope) : Expr → Option (Expr × Expr)
  | .Call (.Name x _) [a, b] [] _ => if x = "range" ∧ glB sc x = true ∧ notStar a = true ∧ notStar b = true then some (a, b) else none
  | _ => none
def noArgs : Arguments → Bool
  | ⟨[], [], none, [], [], none, []⟩ => true
  | _ => false
/-- name, params, body, scope -/
def lamX : Expr → Option (Str × Arguments × Expr × Scope)
  | .Call (.Name x _) [.Lambda params body scope _] [] _ => some (x, params, body, scope)
  | _ => none
mutual
def gB (B : Bnd) (dl : Bool) (sc : Scope) : G → Expr → Bool
  | .nm i, x => (match x with | .Name y _ => locB B dl sc i y | _ => false)
  | .tup gs, x => (match x with | .Tuple es _ _ => es.all notStar && gsB B dl sc gs es | _ => false)
def gsB (B : Bnd) (dl : Bool) (sc : Scope) : List G → List Expr → Bool
  | [], [] => true
  | g :: gs, e :: es => gB B dl sc g e && gsB B dl sc gs es
  | _, _ => false
end
/-- may stand as a test -/
def tF : E → Bool
  | .var _ => true
  | .prim p _ => p.tst
  | .and_ a b => tF a && tF b
  | .or_ a b => tF a && tF b
  | .not_ a => tF a
  | .chain _ _ _ _ _ => true
  | .call _ _ => true
  | _ => false
def isCstStr : List E → Bool
  | [.cst (.str _), _] => true
  | _ => false
def joinOk (p : P) (es : List E) : Bool := match p with
  | .join => isCstStr es
  | _ => true
def ownOf (B : Bnd) (own : List Nat) : List (Str × Nat) := own.map fun i => (B.N.getD i "", i)

mutual
def chk (B : Bnd) (lm : Bool) (sc : Scope) : E → Expr → Bool
  | .var i, x => nameX B sc i x
  | .mv i, x => nameX B sc i x
  | .pop i, x => popX B sc i x
  | .cst d, x => cstX B sc d x
  | .tup es, x => (match tupX x with | some xs => decide (es.length < 16000000) && chks B lm sc es xs | none => false)
  | .lst es, x => (match lstX x with | some xs => decide (es.length < 16000000) && chks B lm sc es xs | none => false)
  | .hlst es, x => (match lstX x with | some xs => decide (es.length < 16000000) && chks B lm sc es xs | none => false)
  | .hdict ks vs, x => (match dictX ks x with | some xs => chks B lm sc vs xs | none => false)
  | .prim p es, x => (match primX sc p x with | some xs => joinOk p es && chks B lm sc es xs | none => false)
  | .and_ a b, x => (match boolX .And x with | some (y, z) => chk B lm sc a y && chk B lm sc b z | none => false)
  | .or_ a b, x => (match boolX .Or x with | some (y, z) => chk B lm sc a y && chk B lm sc b z | none => false)
  | .not_ a, x => (match notX x with | some y => chk B lm sc a y | none => false)
  | .ite c a b, x => (match ifX x with | some (z, y, u) => tF c && chk B lm sc c z && chk B lm sc a y && chk B lm sc b u | none => false)
  | .chain p q a b c, x => (match chainX p q x with | some (y, z, u) => chk B lm sc a y && chk B lm sc b z && chk B lm sc c u | none => false)
  | .call f es, x => (match callFX B sc f x with | some xs => chks B lm sc es xs | none => false)
  | .comp own sr g e, x => (match compX x with
    | some (elt, tg, iter, ifs, scope) => ifs.isEmpty && chkS B lm sc sr iter && blkC B.N sc scope (ownOf B own) && gB B false (relS scope sc) g tg && g.names.all (own.contains ·) && chk B false (relS scope sc) e elt
    | none => false)
  | .compIf own sr g c e, x => (match compX x with
    | some (elt, tg, iter, ifs, scope) => (match ifs with
      | [t] => chkS B lm sc sr iter && blkC B.N sc scope (ownOf B own) && gB B false (relS scope sc) g tg && g.names.all (own.contains ·) && tF c && chk B false (relS scope sc) c t && chk B false (relS scope sc) e elt
      | _ => false)
    | none => false)
  | .tried k e, x => (match lamX x with
    | some (name, params, body, scope) => lm && decide (B.told.lookup name = some k) && glB sc name && noArgs params && LamX.lamSB sc scope && chk B false scope e body
    | none => false)
def chks (B : Bnd) (lm : Bool) (sc : Scope) : List E → List Expr → Bool
  | [], xs => xs.isEmpty
  | e :: es, xs => (match xs with | x :: xs => notStar x && chk B lm sc e x && chks B lm sc es xs | [] => false)
def chkS (B : Bnd) (lm : Bool) (sc : Scope) : Src → Expr → Bool
  | .of e, x => chk B lm sc e x
  | .range e, x => (match rng1X sc x with | some y => chk B lm sc e y | none => false)
  | .range2 a b, x => (match rng2X sc x with | some (y, z) => chk B lm sc a y && chk B lm sc b z | none => false)
end

section
variable {F : Fx} {C : Ctx} {n : Nat} {B : Bnd}

/-! ### targets -/
theorem asg_cons {e : Expr} (h : notStar e = true) (es : List Expr) (env : Env) : (assignEach (e :: es) env).map (·.2) = assign e env :: (assignEach es env).map (·.2) := by
  cases e <;> first | rfl | cases h
theorem asg_len {env : Env} : ∀ (es : List Expr), (assignEach es env).length = es.length
  | [] => rfl
  | e :: es => by
    have : (assignEach (e :: es) env).length = (assignEach es env).length + 1 := by cases e <;> rfl
    rw [this, asg_len es]
    rfl
theorem asg_star {env : Env} : ∀ (es : List Expr), es.all notStar = true → (assignEach es env).findIdx? (·.1) = none
  | [], _ => rfl
  | e :: es, h => by
    simp only [List.all_cons, Bool.and_eq_true] at h
    have q := asg_star es h.2 (env := env)
    have : ∃ m, assignEach (e :: es) env = (false, m) :: assignEach es env := by
      obtain ⟨h, _⟩ := h
      cases e <;> first | exact ⟨_, rfl⟩ | cases h
    obtain ⟨m, hm⟩ := this
    rw [hm, List.findIdx?_cons]
    simp [q]
mutual
theorem g_ok {sc : Scope} {W : WX} {X : Cx} {dl : Bool} (c : Cok F C n B sc W X) (hF : dl = true → ∀ x, X.fn x = true) : ∀ (g : G) (x : Expr), gB B dl sc g x = true → PG X x (gR X.K g)
  | .nm i, x, h => by
    unfold gB at h
    split at h
    · obtain ⟨h1, h2, h3⟩ := c.loc hF h
      exact pg_name (by rw [c.hN]; exact c.nd) h1 h2 h3
    · cases h
  | .tup gs, x, h => by
    unfold gB at h
    split at h
    · rename_i es _ _
      simp only [Bool.and_eq_true] at h
      obtain ⟨h1, h2⟩ := gs_ok c hF gs _ h.2 h.1
      exact pg_tup c.calm h1 (by rw [asg_len, h2]) (asg_star _ h.1)
    · cases h
theorem gs_ok {sc : Scope} {W : WX} {X : Cx} {dl : Bool} (c : Cok F C n B sc W X) (hF : dl = true → ∀ x, X.fn x = true) : ∀ (gs : List G) (es : List Expr), gsB B dl sc gs es = true → es.all notStar = true → PGs X es (gRs X.K gs) ∧ es.length = gs.length
  | [], [], _, _ => ⟨pgs_nil, rfl⟩
  | g :: gs, e :: es, h, hs => by
    unfold gsB at h
    simp only [Bool.and_eq_true] at h
    simp only [List.all_cons, Bool.and_eq_true] at hs
    obtain ⟨h1, h2⟩ := gs_ok c hF gs es h.2 hs.2
    exact ⟨pgs_cons (g_ok c hF g e h.1) h1 (asg_cons hs.1 _ _), by rw [List.length_cons, List.length_cons, h2]⟩
  | [], _ :: _, h, _ => by cases h
  | _ :: _, [], h, _ => by cases h
end

/-! ### constants -/
theorem flatEq_is {a b : D} (h : flatEq a b = true) : a = b := by
  unfold flatEq at h
  split at h
  · exact congrArg D.int (by simpa using h)
  · exact congrArg D.str (of_decide_eq_true h)
  · rename_i a b
    cases a <;> cases b <;> first | rfl | cases h
  · rfl
  · cases h
theorem tE_con {W : WX} {d : D} {v : V} {σ : L2.St} {H : Hp} {Q : VK} (r : ∀ w, RV w v d) (h : tE F W (ret (.d d)) σ H Q) : tC v σ H Q := tE_ret h v r
theorem cst_ok {sc : Scope} {W : WX} {X : Cx} (c : Cok F C n B sc W X) {d : D} {x : Expr} (h : cstX B sc d x = true) : PE X x (tE F W (ret (.d d))) := by
  unfold cstX at h
  split at h
  · rename_i k j pos
    split at h
    · rename_i e he
      obtain rfl := flatEq_is h
      cases k with
      | int i =>
        cases he
        exact pe_int.wk fun σ H Q q => tE_con (fun w => .int i) q
      | bool b =>
        cases he
        exact pe_bl.wk fun σ H Q q => tE_con (fun w => .bl b) q
      | none =>
        cases he
        exact pe_non.wk fun σ H Q q => tE_con (fun w => .non) q
      | str z =>
        have he : (if PyData.strOk z then some (D.str z) else none) = some d := he
        split at he
        · rename_i hz
          cases he
          exact pe_str.wk fun σ H Q q => tE_con (fun w => .str z hz) q
        · cases he
      | _ => cases he
    · cases h
  · rename_i x pos
    simp only [Bool.and_eq_true] at h
    obtain ⟨h1, h2⟩ := h
    split at h2
    · rename_i e he
      obtain rfl := flatEq_is h2
      obtain ⟨g1, g2, g3⟩ := c.gl h1
      obtain ⟨v, u, m1, m2, m3⟩ := c.gc _ _ he
      exact (pe_glob g1 m1 m2 g2).wk fun σ H Q q => tE_con m3 q
    · cases h2
  · cases h

/-! ### lambdas that are tried: what is asked -/
def LamOk (F : Fx) (C : Ctx) (n : Nat) (B : Bnd) (sc : Scope) (W : WX) (X : Cx) : Prop :=
  ∀ (name : Str) (k : Nat) (params : Arguments) (body : Expr) (scope : Scope) (p lpos pos : Pos) (e : E) (ro : Bool), B.told.lookup name = some k → glB sc name = true → noArgs params = true → LamX.lamSB sc scope = true →
    (∀ (X' : Cx) (W' : WX), Cok F C n B scope W' X' → PE X' body (tE F W' (E.ev C true e))) →
    PE X (.Call (.Name name p) [.Lambda params body scope lpos] [] pos) (tE F W (E.ev C ro (.tried k e)))

theorem Cok.blk {sc : Scope} {W : WX} {X : Cx} (c : Cok F C n B sc W X) (s : Shared) (H : Hp) (scope : Scope) (C' : Addr) (cl : List (Str × Addr)) (fp : List Addr) :
    Cok F C n B (relS scope sc) W0 (X.blk s H scope (compEnvC scope cl C' X.env) fp) where
  hN := c.hN
  nd := c.nd
  hsc := by
    rw [← c.hsc]
    rfl
  room := c.room
  calm := c.calm
  tk := takes0
  bl := c.bl
  gc := c.gc
  fns := c.fns

/-! ### tests -/
theorem wp_bind' {m : M α} {f : α → M β} {s : S} {Φ : β → S → Prop} {Ψ : Nat → Hs → Prop} (h : wp (m s) (fun a s' => wp (f a s') Φ Ψ) Ψ) : wp (bind m f s) Φ Ψ := by
  unfold bind
  cases q : m s with
  | ok a s' => rw [q] at h; exact h
  | ex c g => rw [q] at h; exact h
  | bad => rw [q] at h; exact h
theorem wp_tst {e : E} {ro : Bool} {s : S} {Φ : Bool → S → Prop} {Ψ : Nat → Hs → Prop} (h : wp (E.ev C ro e s) (fun t s' => wp (truthAv (.t t) s') Φ Ψ) Ψ) : wp (bind (avOf e (E.ev C ro e)) truthAv s) Φ Ψ := by
  refine wp_bind' ?_
  cases e with
  | var i =>
    obtain ⟨a, e1, q⟩ := wp_see (show wp ((see fun s => match slot s i with | some (.d x) => some (T.d x) | _ => none) s) _ _ from h)
    show wp ((see fun s => match slot s i with | some (.d x) => some (Av.t (.d x)) | some _ => some (.sl i) | none => none) s) _ _
    unfold see
    cases e2 : slot s i with
    | none => rw [e2] at e1; cases e1
    | some t =>
      rw [e2] at e1
      cases t with
      | ol _ => cases e1
      | d x =>
        cases e1
        simp only [e2]
        exact q
  | _ => exact wp_bind' h
variable {W : WX} {σ : L2.St} {H : Hp} {ro : Bool}
theorem and_t {a b : E} {Q : Bool → Hp → Prop} (h : tB F W (bind (avOf (.and_ a b) (E.ev C ro (.and_ a b))) truthAv) σ H Q) :
    tAnd (tB F W (bind (avOf a (E.ev C ro a)) truthAv)) (tB F W (bind (avOf b (E.ev C ro b)) truthAv)) σ H Q := by
  obtain ⟨w, s, r, h⟩ := h
  have h := wp_bind (wp_bind (wp_bind h))
  refine ⟨w, s, r, wp_mono h (fun k s1 _ q => ?_) fun _ _ e => e⟩
  intro w1 H1 a1
  cases k with
  | true => exact ⟨w1, s1, a1.rel, wp_mono (wp_tst q) (fun b' s2 _ z w2 H2 a2 => z w2 H2 (a1.trans a2)) fun _ _ e => e.from a1⟩
  | false =>
    obtain ⟨b', e, q⟩ := wp_truth (show wp (truthAv (.t (.d (.bl false))) s1) (fun b s' => ∀ w' H', At F.T0 w s σ H w' s' σ H' → Q b H') (Exc F W w s σ H) from q)
    cases e
    exact q w1 H1 a1
theorem or_t {a b : E} {Q : Bool → Hp → Prop} (h : tB F W (bind (avOf (.or_ a b) (E.ev C ro (.or_ a b))) truthAv) σ H Q) :
    tOr (tB F W (bind (avOf a (E.ev C ro a)) truthAv)) (tB F W (bind (avOf b (E.ev C ro b)) truthAv)) σ H Q := by
  obtain ⟨w, s, r, h⟩ := h
  have h := wp_bind (wp_bind (wp_bind h))
  refine ⟨w, s, r, wp_mono h (fun k s1 _ q => ?_) fun _ _ e => e⟩
  intro w1 H1 a1
  cases k with
  | false => exact ⟨w1, s1, a1.rel, wp_mono (wp_tst q) (fun b' s2 _ z w2 H2 a2 => z w2 H2 (a1.trans a2)) fun _ _ e => e.from a1⟩
  | true =>
    obtain ⟨b', e, q⟩ := wp_truth (show wp (truthAv (.t (.d (.bl true))) s1) (fun b s' => ∀ w' H', At F.T0 w s σ H w' s' σ H' → Q b H') (Exc F W w s σ H) from q)
    cases e
    exact q w1 H1 a1
theorem not_t {a : E} {Q : Bool → Hp → Prop} (h : tB F W (bind (avOf (.not_ a) (E.ev C ro (.not_ a))) truthAv) σ H Q) : tNot (tB F W (bind (avOf a (E.ev C ro a)) truthAv)) σ H Q := by
  obtain ⟨w, s, r, h⟩ := h
  have h := wp_bind (wp_bind (wp_bind h))
  refine ⟨w, s, r, wp_mono h (fun k s1 _ q => ?_) fun _ _ e => e⟩
  intro w1 H1 a1
  obtain ⟨b', e, q⟩ := wp_truth (show wp (truthAv (.t (.d (.bl (!k)))) s1) (fun b s' => ∀ w' H', At F.T0 w s σ H w' s' σ H' → Q b H') (Exc F W w s σ H) from q)
  cases e
  exact q w1 H1 a1

/-! ### views, read back -/
theorem tupX_some {x : Expr} {xs : List Expr} (h : tupX x = some xs) : ∃ k pos, x = .Tuple xs k pos := by
  unfold tupX at h
  split at h
  · cases h
    exact ⟨_, _, rfl⟩
  · cases h
theorem lstX_some {x : Expr} {xs : List Expr} (h : lstX x = some xs) : ∃ pos, x = .List xs pos := by
  unfold lstX at h
  split at h
  · cases h
    exact ⟨_, rfl⟩
  · cases h
theorem boolX_some {op : BoolOp} {x y z : Expr} (h : boolX op x = some (y, z)) : ∃ b rest pos, x = .BoolOp op (y :: b :: rest) pos ∧ z = (match rest with | [] => b | _ :: _ => .BoolOp op (b :: rest) pos) := by
  unfold boolX at h
  split at h
  · split at h
    · rename_i e
      subst e
      cases h
      exact ⟨_, _, _, rfl, rfl⟩
    · cases h
  · cases h
theorem pw_of {X : Cx} {op : BoolOp} {vs : List Expr} {pos : Pos} {t : TT} (h : PT X (.BoolOp op vs pos) t) : PW X (.BoolOp op vs pos) t := ⟨fun _ pins s σ H Q I q => h.run pins s σ H Q I q⟩
theorem chOp_ok {X : Cx} {p : P} {op : CmpOp} (h : chOp p = some op) : ∃ r : R2, OpR X (compareOp op) r ∧ (∀ {x y : V} {σ : L2.St} {H : Hp} {Q : VK}, PrL F p [x, y] σ H Q → r x y H Q) ∧ op ≠ .In ∧ op ≠ .NotIn := by
  unfold chOp at h
  split at h <;> cases h
  · exact ⟨_, op_lt, fun q => pr_cmp (fun _ _ _ => rfl) q, by decide, by decide⟩
  · exact ⟨_, op_le, fun q => pr_cmp (fun _ _ _ => rfl) q, by decide, by decide⟩
  · exact ⟨_, op_gt, fun q => pr_cmp (fun _ _ _ => rfl) q, by decide, by decide⟩
  · exact ⟨_, op_ge, fun q => pr_cmp (fun _ _ _ => rfl) q, by decide, by decide⟩
theorem chainX_some {p q : P} {x a b c : Expr} (h : chainX p q x = some (a, b, c)) : ∃ o o' pos, x = .Compare a [o, o'] [b, c] pos ∧ chOp p = some o ∧ chOp q = some o' := by
  unfold chainX at h
  split at h
  · split at h
    · rename_i e
      cases h
      exact ⟨_, _, _, rfl, e.1, e.2⟩
    · cases h
  · cases h
theorem chain_mono {p q : P} {r r' : R2} (h1 : ∀ {x y : V} {σ : L2.St} {H : Hp} {Q : VK}, PrL F p [x, y] σ H Q → r x y H Q) (h2 : ∀ {x y : V} {σ : L2.St} {H : Hp} {Q : VK}, PrL F q [x, y] σ H Q → r' x y H Q) {ma mb mc : M Av} {Q : VK}
    (h : tChain (fun x y H Q => ∃ σ', PrL F p [x, y] σ' H Q) (fun x y H Q => ∃ σ', PrL F q [x, y] σ' H Q) (tAv F W ma) (tAv F W mb) (tAv F W mc) σ H Q) : tChain r r' (tAv F W ma) (tAv F W mb) (tAv F W mc) σ H Q := by
  refine tAv_mono h fun x H1 k => tAv_mono k fun y H2 k => ?_
  obtain ⟨σ', k⟩ := k
  refine h1 (σ := σ') ?_
  obtain ⟨w, s, ts, t, e1, e2, e3, f⟩ := k
  refine ⟨w, s, ts, t, e1, e2, e3, fun w' H' v a val n => ?_⟩
  obtain ⟨b, e, z⟩ := f w' H' v a val n
  refine ⟨b, e, ?_⟩
  cases b with
  | true => exact tAv_mono z fun u H3 ⟨σ2, k⟩ => h2 k
  | false => exact z
theorem dictX_some {ks : List Str} {x : Expr} {xs : List Expr} (h : dictX ks x = some xs) : ∃ keys pos, x = .Dict keys xs pos ∧ keysAre ks keys = true ∧ ks.Nodup ∧ ks.length ≤ 15 ∧ ks ≠ [] ∧ ks.length = xs.length := by
  unfold dictX at h
  split at h
  · split at h
    · rename_i e
      cases h
      exact ⟨_, _, rfl, e⟩
    · cases h
  · cases h
theorem keys_len : ∀ {ks : List Str} {keys : List (Option Expr)}, keysAre ks keys = true → keys.length = ks.length ∧ keys.all (·.isSome) = true
  | [], [], _ => ⟨rfl, rfl⟩
  | [], _ :: _, h => by cases h
  | _ :: _, [], h => by cases h
  | k :: ks, none :: r, h => by cases h
  | k :: ks, some e :: r, h => by
    unfold keysAre at h
    simp only [Bool.and_eq_true] at h
    obtain ⟨h1, h2⟩ := keys_len h.2
    exact ⟨by rw [List.length_cons, List.length_cons, h1], by simpa using h2⟩
theorem strIs_some {k : Str} {e : Expr} (h : strIs k e = true) : ∃ j pos, e = .Constant (.str k) j pos := by
  unfold strIs at h
  split at h
  · rw [of_decide_eq_true h]
    exact ⟨_, _, rfl⟩
  · cases h
theorem pps_ok {X : Cx} {pos : Pos} : ∀ {ks : List Str} {keys : List (Option Expr)} {es : List E} {xs : List Expr}, keysAre ks keys = true → ks.length = xs.length → (∀ (i : Nat) (e : E) (x : Expr), es[i]? = some e → xs[i]? = some x → PE X x (tE F W (E.ev C ro e))) → es.length = xs.length →
    PPs X pos keys xs ((ks.zip es).map fun p => (tC (.str p.1), tE F W (E.ev C ro p.2)))
  | [], [], [], [], _, _, _, _ => pps_nil
  | [], _ :: _, _, _, h, _, _, _ => by cases h
  | _ :: _, [], _, _, h, _, _, _ => by cases h
  | k :: ks, none :: r, _, _, h, _, _, _ => by cases h
  | [], [], _ :: _, [], _, _, _, h => by cases h
  | [], [], _, _ :: _, _, h, _, _ => by cases h
  | _ :: _, _ :: _, _, [], _, h, _, _ => by cases h
  | _ :: _, _ :: _, [], _ :: _, _, _, _, h => by cases h
  | k :: ks, some e :: r, d :: es, x :: xs, h, hl, hp, hl2 => by
    unfold keysAre at h
    simp only [Bool.and_eq_true] at h
    obtain ⟨j, pos, rfl⟩ := strIs_some h.1
    exact pps_cons pe_str (hp 0 d x rfl rfl) (pps_ok h.2 (Nat.succ.inj hl) (fun i e x h1 h2 => hp (i + 1) e x h1 h2) (Nat.succ.inj hl2))
theorem compX_some {x elt tg iter : Expr} {ifs : List Expr} {scope : Scope} (h : compX x = some (elt, tg, iter, ifs, scope)) : ∃ pos, x = .ListComp elt [⟨tg, iter, ifs, 0⟩] scope pos ∧ noSet iter = true := by
  unfold compX at h
  split at h
  · split at h
    · rename_i e
      cases h
      exact ⟨_, rfl, e⟩
    · cases h
  · cases h
theorem noSet_ok {e : Expr} (h : noSet e = true) (env : Env) : ∀ x, foldedSetIterable e env x = pure x := by
  intro x
  cases e <;> first | rfl | cases h
theorem own_map (own : List Nat) : (ownOf B own).map (·.2) = own := by
  unfold ownOf
  rw [List.map_map]
  exact List.map_id' own
theorem callFX_some {sc : Scope} {f : Nat} {x : Expr} {es : List Expr} (h : callFX B sc f x = some es) : ∃ y p pos, x = .Call (.Name y p) es [] pos ∧ B.fn.lookup y = some f ∧ glB sc y = true := by
  unfold callFX at h
  split at h
  · split at h
    · rename_i e
      cases h
      exact ⟨_, _, _, rfl, e.1, e.2⟩
    · cases h
  · cases h
theorem lamX_some {x : Expr} {name : Str} {params : Arguments} {body : Expr} {scope : Scope} (h : lamX x = some (name, params, body, scope)) : ∃ p lpos pos, x = .Call (.Name name p) [.Lambda params body scope lpos] [] pos := by
  unfold lamX at h
  split at h
  · cases h
    exact ⟨_, _, _, rfl⟩
  · cases h
theorem rng1X_some {sc : Scope} {x a : Expr} (h : rng1X sc x = some a) : ∃ p pos, x = .Call (.Name "range" p) [a] [] pos ∧ glB sc "range" = true ∧ notStar a = true := by
  unfold rng1X at h
  split at h
  · split at h
    · rename_i e
      obtain ⟨rfl, e1, e2⟩ := e
      cases h
      exact ⟨_, _, rfl, e1, e2⟩
    · cases h
  · cases h
theorem rng2X_some {sc : Scope} {x a b : Expr} (h : rng2X sc x = some (a, b)) : ∃ p pos, x = .Call (.Name "range" p) [a, b] [] pos ∧ glB sc "range" = true ∧ notStar a = true ∧ notStar b = true := by
  unfold rng2X at h
  split at h
  · split at h
    · rename_i e
      obtain ⟨rfl, e1, e2, e3⟩ := e
      cases h
      exact ⟨_, _, rfl, e1, e2, e3⟩
    · cases h
  · cases h
end
end PL
end
section
set_option linter.all false
set_option maxRecDepth 100000
set_option maxHeartbeats 16000000
/-! PL12: what is checked is so: expressions. -/
namespace PL
open PySem PySem.Spec PyProof.Rows L2
section
variable {F : Fx} {C : Ctx} {n : Nat} {B : Bnd}
/-- what holds in a def's own block -/
structure Top (F : Fx) (C : Ctx) (n : Nat) (B : Bnd) (sc : Scope) (W : WX) (X : Cx) : Prop where
  lam : LamOk F C n B sc W X
  fn : ∀ x, X.fn x = true
/-- what is known of an expression -/
structure EOk (F : Fx) (C : Ctx) (W : WX) (ro : Bool) (X : Cx) (e : E) (x : Expr) : Prop where
  val : PE X x (tE F W (E.ev C ro e))
  opd : PE X x (tOpd F W C ro e)
  tst : tF e = true → PT X x (tB F W (bind (avOf e (E.ev C ro e)) truthAv))
structure EsOk (F : Fx) (C : Ctx) (W : WX) (ro : Bool) (X : Cx) (es : List E) (xs : List Expr) : Prop where
  av : AvL F W C ro X es xs
  ds : PA X xs (tDs F W (E.evs C ro es))
  star : xs.all notStar = true
  len : es.length = xs.length
  at_ : ∀ (i : Nat) (e : E) (x : Expr), es[i]? = some e → xs[i]? = some x → PE X x (tE F W (E.ev C ro e))
/-- a value that is no name -/
theorem EOk.of {W : WX} {ro : Bool} {X : Cx} {e : E} {x : Expr} (h : PE X x (tE F W (E.ev C ro e))) (hv : ∀ i, e ≠ .var i) (ht : tF e = true → PT X x (tB F W (bind (avOf e (E.ev C ro e)) truthAv))) : EOk F C W ro X e x :=
  ⟨h, pe_opd h fun i e => absurd e (hv i), ht⟩
/-- .. and a plain test -/
theorem EOk.pl {W : WX} {ro : Bool} {X : Cx} {e : E} {x : Expr} (h : PE X x (tE F W (E.ev C ro e))) (hv : ∀ i, e ≠ .var i) (hp : plainT x = true) : EOk F C W ro X e x :=
  .of h hv fun _ => (pt_val (pe_opd h fun i e => absurd e (hv i)) (plainT_is hp _)).wk fun σ H Q q => tB_of q
theorem EOk.nt {W : WX} {ro : Bool} {X : Cx} {e : E} {x : Expr} (h : PE X x (tE F W (E.ev C ro e))) (hv : ∀ i, e ≠ .var i) (ht : tF e = false) : EOk F C W ro X e x :=
  .of h hv fun z => by rw [ht] at z; cases z
theorem tDs_big {ro : Bool} {es : List E} : ∀ s ds s', E.evs C ro es s = .ok ds s' → ds.length = es.length := fun s ds s' h => evs_len es s ds s' h

mutual
theorem snd : ∀ (e : E) (sc : Scope) (W : WX) (X : Cx) (ro lm : Bool) (x : Expr), Cok F C n B sc W X → (lm = true → Top F C n B sc W X) → chk B lm sc e x = true → EOk F C W ro X e x
  | .var i, sc, W, X, ro, lm, x, c, hL, h => by
    replace h : nameX B sc i x = true := h
    unfold nameX at h
    split at h
    · have v := c.vis h
      exact ⟨(v _).wk fun σ H Q q => tE_var q, (v _).wk fun σ H Q q => tAv_var q, fun _ => (pt_val ((v _).wk fun σ H Q q => tAv_var q) (plainT_is rfl _)).wk fun σ H Q q => tB_of q⟩
    · cases h
  | .mv i, sc, W, X, ro, lm, x, c, hL, h => by
    replace h : nameX B sc i x = true := h
    unfold nameX at h
    split at h
    · refine .nt ((c.vis h _).wk fun σ H Q q => ?_) (fun _ z => nomatch z) rfl
      cases ro with
      | true =>
        obtain ⟨w, s, r, q⟩ := q
        exact q.elim
      | false => exact tE_mv q
    · cases h
  | .pop i, sc, W, X, ro, lm, x, c, hL, h => by
    replace h : popX B sc i x = true := h
    unfold popX at h
    split at h
    · simp only [Bool.and_eq_true, decide_eq_true_eq] at h
      obtain ⟨⟨rfl, h1⟩, h2⟩ := h
      refine .nt ((pe_bm0 PySem.F.plainAttrs_list PySem.F.slot_list_pop PySem.F.type_list_pop mt_pop (c.vis h1 _) rfl h2).wk fun σ H Q q => ?_) (fun _ z => nomatch z) rfl
      cases ro with
      | true =>
        obtain ⟨w, s, r, q⟩ := q
        exact q.elim
      | false => exact tE_pop q
    · cases h
  | .cst d, sc, W, X, ro, lm, x, c, hL, h => .nt (cst_ok c h) (fun _ z => nomatch z) rfl
  | .tup es, sc, W, X, ro, lm, x, c, hL, h => by
    replace h : (match tupX x with | some xs => decide (es.length < 16000000) && chks B lm sc es xs | none => false) = true := h
    cases hx : tupX x with
    | none => rw [hx] at h; cases h
    | some xs =>
      rw [hx] at h
      simp only [Bool.and_eq_true, decide_eq_true_eq] at h
      obtain ⟨k, pos, rfl⟩ := tupX_some hx
      exact .nt ((pe_tup (snds es sc W X ro lm _ c hL h.2).ds).wk fun σ H Q q => tE_tup tDs_big (big_eq ▸ h.1) q) (fun _ z => nomatch z) rfl
  | .lst es, sc, W, X, ro, lm, x, c, hL, h => by
    replace h : (match lstX x with | some xs => decide (es.length < 16000000) && chks B lm sc es xs | none => false) = true := h
    cases hx : lstX x with
    | none => rw [hx] at h; cases h
    | some xs =>
      rw [hx] at h
      simp only [Bool.and_eq_true, decide_eq_true_eq] at h
      obtain ⟨pos, rfl⟩ := lstX_some hx
      exact .nt ((pe_lst (snds es sc W X ro lm _ c hL h.2).ds).wk fun σ H Q q => tE_lst tDs_big (big_eq ▸ h.1) q) (fun _ z => nomatch z) rfl
  | .hlst es, sc, W, X, ro, lm, x, c, hL, h => by
    replace h : (match lstX x with | some xs => decide (es.length < 16000000) && chks B lm sc es xs | none => false) = true := h
    cases hx : lstX x with
    | none => rw [hx] at h; cases h
    | some xs =>
      rw [hx] at h
      simp only [Bool.and_eq_true, decide_eq_true_eq] at h
      obtain ⟨pos, rfl⟩ := lstX_some hx
      exact .nt ((pe_lst (snds es sc W X ro lm _ c hL h.2).ds).wk fun σ H Q q => tE_hlst tDs_big (big_eq ▸ h.1) q) (fun _ z => nomatch z) rfl
  | .hdict ks vs, sc, W, X, ro, lm, x, c, hL, h => by
    replace h : (match dictX ks x with | some xs => chks B lm sc vs xs | none => false) = true := h
    cases hx : dictX ks x with
    | none => rw [hx] at h; cases h
    | some xs =>
      rw [hx] at h
      obtain ⟨keys, pos, rfl, k1, k2, k3, k4, k5⟩ := dictX_some hx
      have q := snds vs sc W X ro lm xs c hL h
      obtain ⟨l1, l2⟩ := keys_len k1
      refine .nt ((pe_disp (pps_ok k1 k5 q.at_ q.len) l2 (by rw [l1, k5]) (fun z => ?_) (by rw [l1]; exact k3)).wk fun σ H Q q' => tE_hdict (by rw [k5, q.len]) k2 k3 q') (fun _ z => nomatch z) rfl
      rw [z] at l1
      exact k4 (List.eq_nil_of_length_eq_zero l1.symm)
  | .prim p es, sc, W, X, ro, lm, x, c, hL, h => by
    replace h : (match primX sc p x with | some xs => joinOk p es && chks B lm sc es xs | none => false) = true := h
    cases hx : primX sc p x with
    | none => rw [hx] at h; cases h
    | some xs =>
      rw [hx] at h
      simp only [Bool.and_eq_true] at h
      have q := snds es sc W X ro lm xs c hL h.2
      refine .of (prim_ok c hx (fun e => ?_) q.av) (fun _ z => nomatch z) fun ht => primT_ok c hx ht q.av
      subst e
      have h1 : isCstStr es = true := h.1
      unfold isCstStr at h1
      split at h1
      · exact ⟨_, _, rfl⟩
      · cases h1
  | .and_ a b, sc, W, X, ro, lm, x, c, hL, h => by
    replace h : (match boolX .And x with | some (y, z) => chk B lm sc a y && chk B lm sc b z | none => false) = true := h
    cases hx : boolX .And x with
    | none => rw [hx] at h; cases h
    | some yz =>
      obtain ⟨y, z⟩ := yz
      rw [hx] at h
      simp only [Bool.and_eq_true] at h
      have qa := snd a sc W X ro lm y c hL h.1
      have qb := snd b sc W X ro lm z c hL h.2
      obtain ⟨b', rest, pos, rfl, rfl⟩ := boolX_some hx
      cases rest with
      | nil =>
        refine .of ((pe_and qa.opd (pe_one qb.val)).wk fun σ H Q q => tE_and q) (fun _ z => nomatch z) fun ht => ?_
        have ht : (tF a && tF b) = true := ht
        simp only [Bool.and_eq_true] at ht
        exact (pw_and (qa.tst ht.1) (pw_and1 (qb.tst ht.2))).pt.wk fun σ H Q q => and_t q
      | cons r rs =>
        refine .of ((pe_and qa.opd qb.val).wk fun σ H Q q => tE_and q) (fun _ z => nomatch z) fun ht => ?_
        have ht : (tF a && tF b) = true := ht
        simp only [Bool.and_eq_true] at ht
        exact (pw_and (qa.tst ht.1) (pw_of (qb.tst ht.2))).pt.wk fun σ H Q q => and_t q
  | .or_ a b, sc, W, X, ro, lm, x, c, hL, h => by
    replace h : (match boolX .Or x with | some (y, z) => chk B lm sc a y && chk B lm sc b z | none => false) = true := h
    cases hx : boolX .Or x with
    | none => rw [hx] at h; cases h
    | some yz =>
      obtain ⟨y, z⟩ := yz
      rw [hx] at h
      simp only [Bool.and_eq_true] at h
      have qa := snd a sc W X ro lm y c hL h.1
      have qb := snd b sc W X ro lm z c hL h.2
      obtain ⟨b', rest, pos, rfl, rfl⟩ := boolX_some hx
      cases rest with
      | nil =>
        refine .of ((pe_or qa.opd (pe_one qb.val)).wk fun σ H Q q => tE_or q) (fun _ z => nomatch z) fun ht => ?_
        have ht : (tF a && tF b) = true := ht
        simp only [Bool.and_eq_true] at ht
        exact (pw_or (qa.tst ht.1) (pw_or1 (qb.tst ht.2))).pt.wk fun σ H Q q => or_t q
      | cons r rs =>
        refine .of ((pe_or qa.opd qb.val).wk fun σ H Q q => tE_or q) (fun _ z => nomatch z) fun ht => ?_
        have ht : (tF a && tF b) = true := ht
        simp only [Bool.and_eq_true] at ht
        exact (pw_or (qa.tst ht.1) (pw_of (qb.tst ht.2))).pt.wk fun σ H Q q => or_t q
  | .not_ a, sc, W, X, ro, lm, x, c, hL, h => by
    replace h : (match notX x with | some y => chk B lm sc a y | none => false) = true := h
    cases hx : notX x with
    | none => rw [hx] at h; cases h
    | some y =>
      rw [hx] at h
      have qa := snd a sc W X ro lm y c hL h
      unfold notX at hx
      split at hx
      · cases hx
        exact .of ((pe_not qa.opd).wk fun σ H Q q => tE_not q) (fun _ z => nomatch z) fun ht => (pt_not (qa.tst ht)).wk fun σ H Q q => not_t q
      · cases hx
  | .ite k a b, sc, W, X, ro, lm, x, c, hL, h => by
    replace h : (match ifX x with | some (z, y, u) => tF k && chk B lm sc k z && chk B lm sc a y && chk B lm sc b u | none => false) = true := h
    cases hx : ifX x with
    | none => rw [hx] at h; cases h
    | some zyu =>
      obtain ⟨z, y, u⟩ := zyu
      rw [hx] at h
      simp only [Bool.and_eq_true] at h
      have qk := snd k sc W X ro lm z c hL h.1.1.2
      have qa := snd a sc W X ro lm y c hL h.1.2
      have qb := snd b sc W X ro lm u c hL h.2
      unfold ifX at hx
      split at hx
      · cases hx
        exact .nt ((pe_ifExp (qk.tst h.1.1.1) qa.val qb.val).wk fun σ H Q q => tE_if q) (fun _ z => nomatch z) rfl
      · cases hx
  | .chain p q a b d, sc, W, X, ro, lm, x, c, hL, h => by
    replace h : (match chainX p q x with | some (y, z, u) => chk B lm sc a y && chk B lm sc b z && chk B lm sc d u | none => false) = true := h
    cases hx : chainX p q x with
    | none => rw [hx] at h; cases h
    | some yzu =>
      obtain ⟨y, z, u⟩ := yzu
      rw [hx] at h
      simp only [Bool.and_eq_true] at h
      have qa := snd a sc W X ro lm y c hL h.1.1
      have qb := snd b sc W X ro lm z c hL h.1.2
      have qd := snd d sc W X ro lm u c hL h.2
      obtain ⟨o, o', pos, rfl, e1, e2⟩ := chainX_some hx
      obtain ⟨r, r1, r2, _, _⟩ := chOp_ok (F := F) (X := X) e1
      obtain ⟨r', r3, r4, n1, n2⟩ := chOp_ok (F := F) (X := X) e2
      have hm : lastMarks [o, o'] [z, u] = false := nobehind u n1 n2
      exact .of ((pe_chain r1 r3 qa.opd qb.opd qd.opd hm).wk fun σ H Q k => chain_mono r2 r4 (tE_chain k)) (fun _ z => nomatch z) fun _ =>
        (pt_chain r1 r3 qa.opd qb.opd qd.opd hm).wk fun σ H Q k => chain_mono r2 r4 (tE_chain (tAv_val (tB_of k)))
  | .call f es, sc, W, X, ro, lm, x, c, hL, h => by
    replace h : (match callFX B sc f x with | some xs => chks B lm sc es xs | none => false) = true := h
    cases hx : callFX B sc f x with
    | none => rw [hx] at h; cases h
    | some xs =>
      rw [hx] at h
      have q := snds es sc W X ro lm xs c hL h
      obtain ⟨y, p, pos, rfl, e1, e2⟩ := callFX_some hx
      obtain ⟨g, fd, ps, f1, f2, f3, f4⟩ := c.fns _ _ e1
      obtain ⟨g1, g2, g3⟩ := c.gl e2
      have hps : Passes (L2.CX X.prog X.w) X (EX W) := passes_call c.tk fun cls d σ' H' z => z σ'
      refine .pl ?_ (fun _ z => nomatch z) rfl
      cases xs with
      | nil =>
        have e : es = [] := List.eq_nil_of_length_eq_zero q.len
        subst e
        exact (pe_call0 f1 c.room g1 f2 f3 f4 .nil hps g2).wk fun σ H Q k => tDs_nil (tE_call k)
      | cons x xs =>
        have s := q.star
        simp only [List.all_cons, Bool.and_eq_true] at s
        exact (pe_call f1 c.room g1 f2 f3 f4 .nil hps q.ds g2 (star_cons s.1 _ _) (star_any s.2)).wk fun σ H Q k => tE_call k
  | .comp own sr g e, sc, W, X, ro, lm, x, c, hL, h => by
    replace h : (match compX x with
      | some (elt, tg, iter, ifs, scope) => ifs.isEmpty && chkS B lm sc sr iter && blkC B.N sc scope (ownOf B own) && gB B false (relS scope sc) g tg && g.names.all (own.contains ·) && chk B false (relS scope sc) e elt
      | none => false) = true := h
    cases hx : compX x with
    | none => rw [hx] at h; cases h
    | some t =>
      obtain ⟨elt, tg, iter, ifs, scope⟩ := t
      rw [hx] at h
      simp only [Bool.and_eq_true] at h
      obtain ⟨⟨⟨⟨⟨h1, h2⟩, h3⟩, h4⟩, h5⟩, h6⟩ := h
      obtain ⟨pos, rfl, hs⟩ := compX_some hx
      cases ifs with
      | cons _ _ => cases h1
      | nil =>
        have hi := sndS sr sc W X ro true lm tg iter c hL h2
        have hb := blkOk_by h3
        have pe := pe_lc (X := X) (elt := elt) (tg := tg) (iter := iter) (ifs := []) (scope := scope) (own := ownOf B own) (pos := pos) (g := gR X.K g) (tt := tYes) (te := tE F W0 (E.ev C true e)) c.calm (by rw [c.hN]; exact c.nd) hi
          (by rw [c.hN, c.hsc]; exact hb) (fun s H C' cl fp => g_ok (dl := false) (c.blk s H scope C' cl fp) (fun z => nomatch z) g tg h4) (fun s H C' cl fp => pts_nil)
          (fun s H C' cl fp => (snd e _ W0 _ true false elt (c.blk s H scope C' cl fp) (fun z => nomatch z) h6).val) (noSet_ok hs _)
        rw [own_map] at pe
        refine .nt (pe.wk fun σ H Q q => ?_) (fun _ z => nomatch z) rfl
        refine tLc_ok turn_comp (fun i hi => ?_) (fun s o s' z => ?_) q
        · rw [List.all_eq_true] at h5
          simpa using h5 i hi
        · obtain ⟨t, s1, z1, z2⟩ := bind_ok z
          obtain ⟨d, s2, z3, z4⟩ := bind_ok z2
          rw [(ret_ok z4).2, (needD_ok z3).2]
          exact ev_ro' z1
  | .compIf own sr g k e, sc, W, X, ro, lm, x, c, hL, h => by
    replace h : (match compX x with
      | some (elt, tg, iter, ifs, scope) => (match ifs with
        | [t] => chkS B lm sc sr iter && blkC B.N sc scope (ownOf B own) && gB B false (relS scope sc) g tg && g.names.all (own.contains ·) && tF k && chk B false (relS scope sc) k t && chk B false (relS scope sc) e elt
        | _ => false)
      | none => false) = true := h
    cases hx : compX x with
    | none => rw [hx] at h; cases h
    | some t =>
      obtain ⟨elt, tg, iter, ifs, scope⟩ := t
      rw [hx] at h
      obtain ⟨pos, rfl, hs⟩ := compX_some hx
      cases ifs with
      | nil => cases h
      | cons tt r =>
        cases r with
        | cons _ _ => cases h
        | nil =>
          simp only [Bool.and_eq_true] at h
          obtain ⟨⟨⟨⟨⟨⟨h2, h3⟩, h4⟩, h5⟩, h6⟩, h7⟩, h8⟩ := h
          have hi := sndS sr sc W X ro true lm tg iter c hL h2
          have hb := blkOk_by h3
          have pe := pe_lc (X := X) (elt := elt) (tg := tg) (iter := iter) (ifs := [tt]) (scope := scope) (own := ownOf B own) (pos := pos) (g := gR X.K g) (tt := tB F W0 (bind (avOf k (E.ev C true k)) truthAv)) (te := tE F W0 (E.ev C true e)) c.calm (by rw [c.hN]; exact c.nd) hi
            (by rw [c.hN, c.hsc]; exact hb) (fun s H C' cl fp => g_ok (dl := false) (c.blk s H scope C' cl fp) (fun z => nomatch z) g tg h4) (fun s H C' cl fp => pts_one ((snd k _ W0 _ true false tt (c.blk s H scope C' cl fp) (fun z => nomatch z) h7).tst h6))
            (fun s H C' cl fp => (snd e _ W0 _ true false elt (c.blk s H scope C' cl fp) (fun z => nomatch z) h8).val) (noSet_ok hs _)
          rw [own_map] at pe
          refine .nt (pe.wk fun σ H Q q => ?_) (fun _ z => nomatch z) rfl
          refine tLc_ok turn_compIf (fun i hi => ?_) (fun s o s' z => ?_) q
          · rw [List.all_eq_true] at h5
            simpa using h5 i hi
          · obtain ⟨b, s1, z1, z2⟩ := bind_ok z
            rw [← avT_ro (fun t s' => ev_ro C k s s' t) z1]
            cases b with
            | false => rw [(ret_ok z2).2]
            | true =>
              obtain ⟨t, s3, z5, z6⟩ := bind_ok z2
              obtain ⟨d, s2, z3, z4⟩ := bind_ok z6
              rw [(ret_ok z4).2, (needD_ok z3).2]
              exact ev_ro' z5
  | .tried k e, sc, W, X, ro, lm, x, c, hL, h => by
    replace h : (match lamX x with
      | some (name, params, body, scope) => lm && decide (B.told.lookup name = some k) && glB sc name && noArgs params && LamX.lamSB sc scope && chk B false scope e body
      | none => false) = true := h
    cases hx : lamX x with
    | none => rw [hx] at h; cases h
    | some t =>
      obtain ⟨name, params, body, scope⟩ := t
      rw [hx] at h
      simp only [Bool.and_eq_true, decide_eq_true_eq] at h
      obtain ⟨⟨⟨⟨⟨h1, h2⟩, h3⟩, h4⟩, h5⟩, h6⟩ := h
      obtain ⟨p, lpos, pos, rfl⟩ := lamX_some hx
      exact .nt ((hL h1).lam name k params body scope p lpos pos e ro h2 h3 h4 h5 fun X' W' c' => (snd e scope W' X' true false body c' (fun z => nomatch z) h6).val) (fun _ z => nomatch z) rfl
theorem snds : ∀ (es : List E) (sc : Scope) (W : WX) (X : Cx) (ro lm : Bool) (xs : List Expr), Cok F C n B sc W X → (lm = true → Top F C n B sc W X) → chks B lm sc es xs = true → EsOk F C W ro X es xs
  | [], sc, W, X, ro, lm, xs, c, hL, h => by
    replace h : xs.isEmpty = true := h
    cases xs with
    | cons _ _ => cases h
    | nil => exact ⟨.nil, pa_nil.wk fun σ H Q q => tDs_nil q, rfl, rfl, fun i e x z => by simp at z⟩
  | e :: es, sc, W, X, ro, lm, xs, c, hL, h => by
    cases xs with
    | nil => cases h
    | cons x xs =>
      have h : (notStar x && chk B lm sc e x && chks B lm sc es xs) = true := h
      simp only [Bool.and_eq_true] at h
      have q := snd e sc W X ro lm x c hL h.1.2
      have qs := snds es sc W X ro lm xs c hL h.2
      refine ⟨.cons q.opd qs.av, (pa_cons q.val qs.ds (star_cons h.1.1 _ _)).wk fun σ H Q k => tDs_cons k, by simp [h.1.1, qs.star], by rw [List.length_cons, List.length_cons, qs.len], fun i d y e1 e2 => ?_⟩
      cases i with
      | zero =>
        cases e1
        cases e2
        exact q.val
      | succ i => exact qs.at_ i d y e1 e2
theorem sndS : ∀ (sr : Src) (sc : Scope) (W : WX) (X : Cx) (ro ow lm : Bool) (tg x : Expr), Cok F C n B sc W X → (lm = true → Top F C n B sc W X) → chkS B lm sc sr x = true → PI X tg x (tS F W ow (Src.ev C ro ow sr))
  | .of e, sc, W, X, ro, ow, lm, tg, x, c, hL, h => (pi_any (snd e sc W X ro lm x c hL h).opd).wk fun σ H R q => tS_of q
  | .range e, sc, W, X, ro, ow, lm, tg, x, c, hL, h => by
    replace h : (match rng1X sc x with | some y => chk B lm sc e y | none => false) = true := h
    cases hx : rng1X sc x with
    | none => rw [hx] at h; cases h
    | some y =>
      rw [hx] at h
      have q := snd e sc W X ro lm y c hL h
      obtain ⟨p, pos, rfl, e1, e2⟩ := rng1X_some hx
      obtain ⟨g1, g2, g3⟩ := c.gl e1
      exact (pi_range1 g1 (c.bl _ (by simp)) (pa_cons q.val pa_nil (star_cons e2 _ _)) (star_cons e2 _ _)).wk fun σ H R k => tS_range k
  | .range2 a b, sc, W, X, ro, ow, lm, tg, x, c, hL, h => by
    replace h : (match rng2X sc x with | some (y, z) => chk B lm sc a y && chk B lm sc b z | none => false) = true := h
    cases hx : rng2X sc x with
    | none => rw [hx] at h; cases h
    | some yz =>
      obtain ⟨y, z⟩ := yz
      rw [hx] at h
      simp only [Bool.and_eq_true] at h
      have q := snd a sc W X ro lm y c hL h.1
      have q2 := snd b sc W X ro lm z c hL h.2
      obtain ⟨p, pos, rfl, e1, e2, e3⟩ := rng2X_some hx
      obtain ⟨g1, g2, g3⟩ := c.gl e1
      exact (pi_range2 g1 (c.bl _ (by simp)) (pa_cons q.val (pa_cons q2.val pa_nil (star_cons e3 _ _)) (star_cons e2 _ _)) (by rw [star_cons e2, star_cons e3]; rfl) (star_cons e3 _ _)).wk fun σ H R k => tS_range2 k
end
end
end PL
end
section
set_option linter.all false
set_option maxRecDepth 100000
set_option maxHeartbeats 16000000
/-! PL13: the checker of statements, and what it is good for. -/
namespace PL
open PySem PySem.Spec PyProof.Rows L2

def noComp : Expr → Bool
  | .ListComp _ _ _ _ => false
  | .SetComp _ _ _ _ => false
  | .DictComp _ _ _ _ _ => false
  | _ => true
theorem no_swap {v : Expr} (h : noComp v = true) (t : Option Expr) (l : Nat) (env : Env) : swapsWith v t l env = pure false := by
  cases v <;> first | rfl | cases h
theorem no_swapS {v tg : Expr} (h : noComp v = true) (l : Nat) (env : Env) : swapsWithSole [tg] v l env = pure false := no_swap h _ l env
/-- no stores from the right -/
def noPar : Expr → Expr → Bool
  | .Tuple _ _ _, .Tuple vs _ _ => vs.all (foldedForSure 8)
  | .List _ _, .Tuple vs _ _ => vs.all (foldedForSure 8)
  | _, _ => true
theorem folded_none {ts vs : List Expr} {env : Env} (h : vs.all (foldedForSure 8) = true) {k : Nat} {p p2 : Pos} {j : Nat} : swappedStores [.Tuple ts k p] (.Tuple vs j p2) env = pure none := by
  unfold swappedStores
  simp only [h]
  split
  · rfl
  · split
    · rfl
    · split
      · rfl
      · rfl
theorem folded_noneL {ts vs : List Expr} {env : Env} (h : vs.all (foldedForSure 8) = true) {p p2 : Pos} {j : Nat} : swappedStores [.List ts p] (.Tuple vs j p2) env = pure none := by
  unfold swappedStores
  simp only [h]
  split
  · rfl
  · split
    · rfl
    · split
      · rfl
      · rfl
theorem noPar_ok {tg v : Expr} (h : noPar tg v = true) (env : Env) : swappedStores [tg] v env = pure none := by
  cases tg <;> cases v <;> first | rfl | exact folded_none h | exact folded_noneL h
/-- a name that is no plain local: no stores from the right -/
def locName (sc : Scope) : Expr → Bool
  | .Name x _ => decide (sc.names.lookup x = some .local)
  | _ => false
def notAllLoc (sc : Scope) : Expr → Expr → Bool
  | .Tuple ts _ _, .Tuple _ _ _ => ts.any fun e => !locName sc e
  | _, _ => false
theorem notAllLoc_ok {sc : Scope} {tg v : Expr} {env : Env} (hs : env.scope = sc) (h : notAllLoc sc tg v = true) : swappedStores [tg] v env = pure none := by
  unfold notAllLoc at h
  split at h
  · rename_i ts _ _ vs _ _
    obtain ⟨e, he, hn⟩ := List.any_eq_true.mp h
    unfold swappedStores
    simp only []
    split
    · rfl
    · split
      · rfl
      · split
        · rfl
        · rename_i h3
          exfalso
          refine h3 ?_
          simp only [Bool.or_eq_true, bne_iff_ne]
          left
          intro z
          rw [List.filterMap_length_eq_length] at z
          have q := z e he
          cases e <;> first | (cases q; done) | skip
          rename_i x px
          have hl : env.kindOf x ≠ some .local := fun w => by
            have w : env.scope.names.lookup x = some .local := w
            rw [hs] at w
            have hn : (!decide (sc.names.lookup x = some .local)) = true := hn
            rw [decide_eq_true w] at hn
            cases hn
          simp [hl] at q
  · cases h
theorem asg_one {tg : Expr} (h : notStar tg = true) (env : Env) : (assignEach [tg] env).map (·.2) = [assign tg env] := asg_cons h [] env

/-- the stores from the right -/
def parOk (sc : Scope) : Expr → Expr → Option (List Str × List Expr)
  | .Tuple [.Name x px, .Name y py] _ _, .Tuple [a, b] _ _ =>
    if sc.names.lookup x = some .local ∧ sc.names.lookup y = some .local ∧ x ≠ y ∧ px.line = py.line ∧ notStar a = true ∧ notStar b = true ∧ (foldedForSure 8 a && foldedForSure 8 b) = false ∧ (constantsAlone 8 a && constantsAlone 8 b) = false then some ([x, y], [a, b]) else none
  | _, _ => none
theorem par_stores {env : Env} {x y : Str} {px py p p2 : Pos} {k j : Nat} {a b : Expr} (hk : env.scope.kind = .function) (hx : env.scope.names.lookup x = some .local) (hy : env.scope.names.lookup y = some .local) (hne : x ≠ y) (hl : px.line = py.line)
    (ha : notStar a = true) (hb : notStar b = true) (hf : (foldedForSure 8 a && foldedForSure 8 b) = false) (hc : (constantsAlone 8 a && constantsAlone 8 b) = false) :
    swappedStores [.Tuple [.Name x px, .Name y py] k p] (.Tuple [a, b] j p2) env = pure (some [x, y]) := by
  have kx : env.kindOf x = some .local := hx
  have ky : env.kindOf y = some .local := hy
  have hbk : env.blockKind = .function := by unfold Env.blockKind; rw [hk]; rfl
  have e1 : (List.any [a, b] fun | .Starred .. => true | _ => false) = false := by
    rw [List.any_eq_false]
    intro e he
    have hs : notStar e = true := by
      rcases List.mem_cons.mp he with z | z
      · rw [z]; exact ha
      · rw [List.mem_singleton.mp z]; exact hb
    cases e <;> first | (intro z; cases z; done) | cases hs
  unfold swappedStores
  have e2 : List.all [a, b] (foldedForSure 8) = false := by
    show (foldedForSure 8 a && (foldedForSure 8 b && true)) = false
    rw [Bool.and_true]
    exact hf
  have e3 : List.all [a, b] (constantsAlone 8) = false := by
    show (constantsAlone 8 a && (constantsAlone 8 b && true)) = false
    rw [Bool.and_true]
    exact hc
  have e4 : ([x, y].eraseDups).length = 2 := by
    have : (y == x) = false := by simpa using fun z => hne z.symm
    simp [List.eraseDups_cons, this]
  simp only [hbk, kx, ky, e2, e3, hl]
  simp [e1, kx, ky, hl, Expr.pos, e4]
  intro z
  exfalso
  rcases z with z | z
  · cases a <;> first | (cases z; done) | (cases ha; done)
  · cases b <;> first | (cases z; done) | (cases hb; done)

/-! ### the checker -/
def rngOk : Bool := true
def nameE : Expr → Option Str
  | .Name x _ => some x
  | _ => none
def methX (m : Str) : Expr → Option (Expr × Expr)
  | .Call (.Attribute o name apos) [a] [] cpos => if name = m ∧ (apos.endLine == cpos.line) = true ∧ attrPlain o = true ∧ notStar a = true then some (o, a) else none
  | _ => none
/-- name = [..] on one line -/
def setLcX (sc : Scope) : Expr → Expr → Option Str
  | .Name y py, .ListComp elt gs scope pos => if sc.names.lookup y = some .local ∧ (py.line == pos.line) = true ∧ (scope.names.any fun (n, k) => n == y && (k == .local || k == .cell)) = false then some y else none
  | _, _ => none
/-- target, value -/
def asgX : Stmt → Option (Expr × Expr)
  | .Assign [tg] v _ => some (tg, v)
  | _ => none
def exprX : Stmt → Option Expr
  | .Expr v _ => some v
  | _ => none
def putX : Stmt → Option (Expr × Expr × Expr)
  | .Assign [.Subscript o k _] v _ => if noComp v = true then some (o, k, v) else none
  | _ => none
def augX : Stmt → Option (Str × Operator × Expr)
  | .AugAssign (.Name x _) op v _ => some (x, op, v)
  | _ => none
def ifSX : Stmt → Option (Expr × List Stmt × List Stmt)
  | .If c a b _ => some (c, a, b)
  | _ => none
def whileX : Stmt → Option (Expr × List Stmt)
  | .While c b [] _ => some (c, b)
  | _ => none
def forX : Stmt → Option (Expr × Expr × List Stmt)
  | .For tg it b [] _ => if noSet it = true then some (tg, it, b) else none
  | _ => none
def retX : Stmt → Option (Option Expr)
  | .Return v _ => some v
  | _ => none
def raiseX (B : Bnd) (sc : Scope) (c : Nat) : Stmt → Bool
  | .Raise (some (.Call (.Name x _) [.Constant (.str _) _ _] [] _)) none _ => decide (B.exc.lookup x = some c) && glB sc x
  | _ => false
def isComp : E → Bool
  | .comp _ _ _ _ => true
  | .compIf _ _ _ _ _ => true
  | _ => false
def isCont : Stmt → Bool
  | .Continue _ => true
  | _ => false
def isBrk : Stmt → Bool
  | .Break _ => true
  | _ => false
def isPass : Stmt → Bool
  | .Pass _ => true
  | _ => false
def isFrz : St → Bool
  | .freeze _ => true
  | _ => false
def gIs (B : Bnd) (y : Str) : G → Bool
  | .nm i => decide (B.N[i]? = some y)
  | _ => false
def lcOk (B : Bnd) (sc : Scope) (g : G) (tg v : Expr) : Bool := match setLcX sc tg v with
  | some y => gIs B y g
  | none => false
def asgOk (B : Bnd) (sc : Scope) (g : G) (ic : Bool) (tg v : Expr) : Bool := if ic then lcOk B sc g tg v else noComp v && (noPar tg v || notAllLoc sc tg v) && notStar tg
theorem lcOk_some {B : Bnd} {sc : Scope} {g : G} {tg v : Expr} (h : lcOk B sc g tg v = true) : ∃ i y, g = .nm i ∧ setLcX sc tg v = some y ∧ B.N[i]? = some y := by
  unfold lcOk at h
  cases hs : setLcX sc tg v with
  | none => rw [hs] at h; cases h
  | some y =>
    rw [hs] at h
    cases g with
    | tup _ => cases h
    | nm i => exact ⟨i, y, rfl, rfl, of_decide_eq_true h⟩
mutual
def chkSt (B : Bnd) (sc : Scope) : St → Stmt → Bool
  | .asg g e, s => (match asgX s with
    | some (tg, v) => gB B true sc g tg && chk B true sc e v && asgOk B sc g (isComp e) tg v
    | none => false)
  | .swap is es, s => (match asgX s with
    | some (tg, v) => (match parOk sc tg v with
      | some (xs, vs) => chks B true sc es vs && decide (is.map (fun i => B.N[i]?) = xs.map some)
      | none => false)
    | none => false)
  | .aug i p e, s => (match augX s with
    | some (x, op, v) => locB B true sc i x && decide (augOp p = some op) && chk B true sc e v
    | none => false)
  | .append i e, s => (match exprX s with
    | some v => (match methX "append" v with
      | some (o, a) => nameX B sc i o && chk B true sc e a
      | none => false)
    | none => false)
  | .extend i e, s => (match exprX s with
    | some v => (match methX "extend" v with
      | some (o, a) => nameX B sc i o && chk B true sc e a
      | none => false)
    | none => false)
  | .hput o k e, s => (match putX s with
    | some (x, y, v) => chk B true sc o x && chk B true sc k y && chk B true sc e v
    | none => false)
  | .happend o e, s => (match exprX s with
    | some v => (match methX "append" v with
      | some (x, a) => chk B true sc o x && chk B true sc e a
      | none => false)
    | none => false)
  | .expr e, s => (match exprX s with
    | some v => noComp v && chk B true sc e v
    | none => false)
  | .if_ c a b, s => (match ifSX s with
    | some (x, p, q) => tF c && chk B true sc c x && chkSts B sc a p && chkSts B sc b q
    | none => false)
  | .while_ c b, s => (match whileX s with
    | some (x, p) => tF c && chk B true sc c x && chkSts B sc b p
    | none => false)
  | .for_ g sr b, s => (match forX s with
    | some (tg, it, p) => gB B true sc g tg && chkS B true sc sr it && chkSts B sc b p
    | none => false)
  | .ret e, s => (match retX s with
    | some (some v) => chk B true sc e v
    | _ => false)
  | .retN, s => (match retX s with
    | some none => true
    | _ => false)
  | .cont, s => isCont s
  | .brk, s => isBrk s
  | .pass, s => isPass s
  | .raise c, s => raiseX B sc c s
  | .freeze _, _ => false
def chkSts (B : Bnd) (sc : Scope) : List St → List Stmt → Bool
  | [], ss => ss.isEmpty
  | a :: r, ss => if isFrz a then chkSts B sc r ss else (match ss with
    | s :: ss => chkSt B sc a s && chkSts B sc r ss
    | [] => false)
end
section
variable {F : Fx} {C : Ctx} {n : Nat} {B : Bnd} {sc : Scope} {W : WX} {X : Cx}
/-- .. and of a def's statements -/
structure TopS (F : Fx) (C : Ctx) (n : Nat) (B : Bnd) (sc : Scope) (W : WX) (X : Cx) : Prop where
  top : Top F C n B sc W X
  kind : sc.kind = .function
  own : PassesOwn (model X.prog X.w) X.A X.env X.xe
  exc : ∀ x c, B.exc.lookup x = some c → ∀ (m : Str) (j : Nat) (p p2 pos : Pos), glB sc x = true → PMk X (.Call (.Name x p) [.Constant (.str m) j p2] [] pos) (fun _ H Q => Q (F.cv c) none H)
theorem methX_some {m : Str} {v o a : Expr} (h : methX m v = some (o, a)) : ∃ apos cpos, v = .Call (.Attribute o m apos) [a] [] cpos ∧ (apos.endLine == cpos.line) = true ∧ attrPlain o = true ∧ notStar a = true := by
  unfold methX at h
  split at h
  · split at h
    · rename_i e
      obtain ⟨rfl, e⟩ := e
      cases h
      exact ⟨_, _, rfl, e⟩
    · cases h
  · cases h
theorem few1 {a : Expr} (h : notStar a = true) (env : Env) (cpos : Pos) : ((backTo cpos (starEach [a] env)).all (fun x => !x.1) && (backToKw cpos (keywordEach [] env)).all (fun x => x.1.isSome)
      && decide (([a] : List Expr).length + ([] : List Keyword).length + (if ([] : List Keyword).isEmpty then 0 else 1) < 30)) = true := by
  rw [star_cons h]
  rfl
theorem setLcX_some {tg v : Expr} {y : Str} (h : setLcX sc tg v = some y) : ∃ py elt gs scope pos, tg = .Name y py ∧ v = .ListComp elt gs scope pos ∧ sc.names.lookup y = some .local ∧ (py.line == pos.line) = true ∧ (scope.names.any fun (n, k) => n == y && (k == .local || k == .cell)) = false := by
  unfold setLcX at h
  split at h
  · split at h
    · rename_i e
      cases h
      exact ⟨_, _, _, _, _, rfl, rfl, e⟩
    · cases h
  · cases h
theorem asgX_some {s : Stmt} {tg v : Expr} (h : asgX s = some (tg, v)) : ∃ pos, s = .Assign [tg] v pos := by
  unfold asgX at h
  split at h
  · cases h
    exact ⟨_, rfl⟩
  · cases h
/-- name = [..], with the store in the comprehension -/
theorem comp_set {own : List Nat} {sr : Src} {g : G} {e : E} {i : Nat} {tg v : Expr} {y : Str} {pos : Pos} (c : Cok F C n B sc W X) (t : TopS F C n B sc W X) (hy : B.N[i]? = some y) (hx : setLcX sc tg v = some y) (h : chk B true sc (.comp own sr g e) v = true) :
    PS X (.Assign [tg] v pos) (tSt F W (St.ex C (.asg (.nm i) (.comp own sr g e)))) := by
  replace h : (match compX v with
      | some (elt, tg, iter, ifs, scope) => ifs.isEmpty && chkS B true sc sr iter && blkC B.N sc scope (ownOf B own) && gB B false (relS scope sc) g tg && g.names.all (own.contains ·) && chk B false (relS scope sc) e elt
      | none => false) = true := h
  cases hc : compX v with
  | none => rw [hc] at h; cases h
  | some u =>
    obtain ⟨elt, tg', iter, ifs, scope⟩ := u
    rw [hc] at h
    simp only [Bool.and_eq_true] at h
    obtain ⟨⟨⟨⟨⟨h1, h2⟩, h3⟩, h4⟩, h5⟩, h6⟩ := h
    obtain ⟨pos', rfl, hs⟩ := compX_some hc
    obtain ⟨py, _, _, _, _, rfl, e1, e2, e3, e4⟩ := setLcX_some hx
    cases e1
    cases ifs with
    | cons _ _ => cases h1
    | nil =>
      have hi := sndS sr sc W X false true true tg' iter c (fun _ => t.top) h2
      have hb := blkOk_by h3
      have ps := ps_setLc (X := X) (i := i) (y := y) (py := py) (elt := elt) (tg := tg') (iter := iter) (ifs := []) (scope := scope) (own := ownOf B own) (pos := pos') (spos := pos) (g := gR X.K g) (tt := tYes) (te := tE F W0 (E.ev C true e)) c.calm (by rw [c.hN]; exact c.nd)
        (by rw [c.hN]; exact hy) (by rw [c.hsc]; exact e2) (sw_true (by rw [c.hsc]; exact t.kind) (by rw [c.hsc]; exact e2) e3 e4) hi
        (by rw [c.hN, c.hsc]; exact hb) (fun s H C' cl fp => g_ok (dl := false) (c.blk s H scope C' cl fp) (fun z => nomatch z) g tg' h4) (fun s H C' cl fp => pts_nil)
        (fun s H C' cl fp => (snd e _ W0 _ true false elt (c.blk s H scope C' cl fp) (fun z => nomatch z) h6).val) (noSet_ok hs _)
      rw [own_map] at ps
      refine ps.wk fun De σ H q => ?_
      refine tLc_ok turn_comp (fun i hi => ?_) (fun s o s' z => ?_) (st_asg (K := X.K) (g := .nm i) q)
      · rw [List.all_eq_true] at h5
        simpa using h5 i hi
      · obtain ⟨t, s1, z1, z2⟩ := bind_ok z
        obtain ⟨d, s2, z3, z4⟩ := bind_ok z2
        rw [(ret_ok z4).2, (needD_ok z3).2]
        exact ev_ro' z1
theorem compIf_set {own : List Nat} {sr : Src} {g : G} {k e : E} {i : Nat} {tg v : Expr} {y : Str} {pos : Pos} (c : Cok F C n B sc W X) (t : TopS F C n B sc W X) (hy : B.N[i]? = some y) (hx : setLcX sc tg v = some y) (h : chk B true sc (.compIf own sr g k e) v = true) :
    PS X (.Assign [tg] v pos) (tSt F W (St.ex C (.asg (.nm i) (.compIf own sr g k e)))) := by
  replace h : (match compX v with
      | some (elt, tg, iter, ifs, scope) => (match ifs with
        | [t] => chkS B true sc sr iter && blkC B.N sc scope (ownOf B own) && gB B false (relS scope sc) g tg && g.names.all (own.contains ·) && tF k && chk B false (relS scope sc) k t && chk B false (relS scope sc) e elt
        | _ => false)
      | none => false) = true := h
  cases hc : compX v with
  | none => rw [hc] at h; cases h
  | some u =>
    obtain ⟨elt, tg', iter, ifs, scope⟩ := u
    rw [hc] at h
    obtain ⟨pos', rfl, hs⟩ := compX_some hc
    obtain ⟨py, _, _, _, _, rfl, e1, e2, e3, e4⟩ := setLcX_some hx
    cases e1
    cases ifs with
    | nil => cases h
    | cons tt r =>
      cases r with
      | cons _ _ => cases h
      | nil =>
        simp only [Bool.and_eq_true] at h
        obtain ⟨⟨⟨⟨⟨⟨h2, h3⟩, h4⟩, h5⟩, h6⟩, h7⟩, h8⟩ := h
        have hi := sndS sr sc W X false true true tg' iter c (fun _ => t.top) h2
        have hb := blkOk_by h3
        have ps := ps_setLc (X := X) (i := i) (y := y) (py := py) (elt := elt) (tg := tg') (iter := iter) (ifs := [tt]) (scope := scope) (own := ownOf B own) (pos := pos') (spos := pos) (g := gR X.K g) (tt := tB F W0 (bind (avOf k (E.ev C true k)) truthAv)) (te := tE F W0 (E.ev C true e)) c.calm (by rw [c.hN]; exact c.nd)
          (by rw [c.hN]; exact hy) (by rw [c.hsc]; exact e2) (sw_true (by rw [c.hsc]; exact t.kind) (by rw [c.hsc]; exact e2) e3 e4) hi
          (by rw [c.hN, c.hsc]; exact hb) (fun s H C' cl fp => g_ok (dl := false) (c.blk s H scope C' cl fp) (fun z => nomatch z) g tg' h4) (fun s H C' cl fp => pts_one ((snd k _ W0 _ true false tt (c.blk s H scope C' cl fp) (fun z => nomatch z) h7).tst h6))
          (fun s H C' cl fp => (snd e _ W0 _ true false elt (c.blk s H scope C' cl fp) (fun z => nomatch z) h8).val) (noSet_ok hs _)
        rw [own_map] at ps
        refine ps.wk fun De σ H q => ?_
        refine tLc_ok turn_compIf (fun i hi => ?_) (fun s o s' z => ?_) (st_asg (K := X.K) (g := .nm i) q)
        · rw [List.all_eq_true] at h5
          simpa using h5 i hi
        · obtain ⟨b, s1, z1, z2⟩ := bind_ok z
          rw [← avT_ro (fun t s' => ev_ro C k s s' t) z1]
          cases b with
          | false => rw [(ret_ok z2).2]
          | true =>
            obtain ⟨t, s3, z5, z6⟩ := bind_ok z2
            obtain ⟨d, s2, z3, z4⟩ := bind_ok z6
            rw [(ret_ok z4).2, (needD_ok z3).2]
            exact ev_ro' z5
end
end PL
end
section
set_option linter.all false
set_option maxRecDepth 100000
set_option maxHeartbeats 16000000
/-! PL14: what is checked is so: statements, defs. -/
namespace PL
open PySem PySem.Spec PyProof.Rows L2
section
variable {F : Fx} {C : Ctx} {n : Nat} {B : Bnd}
theorem st_swap2 {W : WX} {m : M (List D)} {i j : Nat} {De : Ends} {σ : L2.St} {H : Hp} (h : tSt F W (bind m fun ds => swapPut [i, j] ds) De σ H) : tPar i j (tDs F W m) De σ H := by
  obtain ⟨w, s, r, h⟩ := h
  refine ⟨w, s, r, wp_mono (wp_bind h) (fun ds s1 _ q => ?_) fun _ _ e => e⟩
  intro w1 H1 vs a1 rs
  match ds, rs, q with
  | [], _, q => exact (show False from q).elim
  | [d], rs, q =>
    have q : wp (bind (G.put (.nm i) (.d d)) (fun _ => swapPut [j] []) s1) (finO F De w s σ H) (Exc F W w s σ H) := q
    obtain ⟨s2, e2, q⟩ := wp_put (wp_bind q)
    exact (show False from q).elim
  | d :: e :: f :: r, rs, q =>
    have q : wp (bind (G.put (.nm i) (.d d)) (fun _ => swapPut [j] (e :: f :: r)) s1) (finO F De w s σ H) (Exc F W w s σ H) := q
    obtain ⟨s2, e2, q⟩ := wp_put (wp_bind q)
    have q : wp (bind (G.put (.nm j) (.d e)) (fun _ => swapPut [] (f :: r)) s2) (finO F De w s σ H) (Exc F W w s σ H) := q
    obtain ⟨s3, e3, q⟩ := wp_put (wp_bind q)
    exact (show False from q).elim
  | [d, e], .cons r1 (.cons r2 .nil), q =>
    refine ⟨_, _, rfl, ?_⟩
    have q : wp (bind (G.put (.nm i) (.d d)) (fun _ => swapPut [j] [e]) s1) (finO F De w s σ H) (Exc F W w s σ H) := q
    obtain ⟨s2, e2, q⟩ := wp_put (wp_bind q)
    have q : wp (bind (G.put (.nm j) (.d e)) (fun _ => swapPut [] []) s2) (finO F De w s σ H) (Exc F W w s σ H) := q
    obtain ⟨s3, e3, q⟩ := wp_put (wp_bind q)
    have q : finO F De w s σ H .nx s3 := q
    have e2 : (if i < s1.sl.length then R.ok () (setSl s1 i (some (.d d))) else .bad) = .ok () s2 := e2
    have e3 : (if j < s2.sl.length then R.ok () (setSl s2 j (some (.d e))) else .bad) = .ok () s3 := e3
    split at e2
    · rename_i hi
      cases e2
      split at e3
      · rename_i hj
        cases e3
        exact q w1 H1 _ ((a1.put (Val.d r1) NewT.d hi).put (Val.d r2) NewT.d hj)
      · cases e3
    · cases e2
theorem parOk_some {sc : Scope} {tg v : Expr} {xs : List Str} {vs : List Expr} (h : parOk sc tg v = some (xs, vs)) : ∃ x y px py k p a b j p2, tg = .Tuple [.Name x px, .Name y py] k p ∧ v = .Tuple [a, b] j p2 ∧ xs = [x, y] ∧ vs = [a, b] ∧
    sc.names.lookup x = some .local ∧ sc.names.lookup y = some .local ∧ x ≠ y ∧ px.line = py.line ∧ notStar a = true ∧ notStar b = true ∧ (foldedForSure 8 a && foldedForSure 8 b) = false ∧ (constantsAlone 8 a && constantsAlone 8 b) = false := by
  unfold parOk at h
  split at h
  · split at h
    · rename_i e
      cases h
      exact ⟨_, _, _, _, _, _, _, _, _, _, rfl, rfl, rfl, rfl, e⟩
    · cases h
  · cases h
theorem asg_ok {sc : Scope} {W : WX} {X : Cx} (c : Cok F C n B sc W X) (t : TopS F C n B sc W X) {g : G} {e : E} {tg v : Expr} {pos : Pos} (hc : chk B true sc e v = true) (hg : gB B true sc g tg = true)
    (h : asgOk B sc g (isComp e) tg v = true) :
    PS X (.Assign [tg] v pos) (tSt F W (St.ex C (.asg g e))) := by
  have plain : isComp e = false → PS X (.Assign [tg] v pos) (tSt F W (St.ex C (.asg g e))) := fun hp => by
    rw [hp] at h
    have h : (noComp v && (noPar tg v || notAllLoc sc tg v) && notStar tg) = true := h
    simp only [Bool.and_eq_true, Bool.or_eq_true] at h
    have hw : swappedStores [tg] v X.env = pure none := h.1.2.elim (fun z => noPar_ok z _) fun z => notAllLoc_ok c.hsc z
    exact (ps_asg (snd e sc W X false true v c (fun _ => t.top) hc).val (g_ok c (fun _ => t.top.fn) g tg hg) (no_swapS h.1.1 _ _) hw (asg_one h.2 _)).wk fun De σ H q => st_asg q
  cases e with
  | comp own sr g' e' =>
    obtain ⟨i, y, rfl, h1, h2⟩ := lcOk_some (show lcOk B sc g tg v = true from h)
    exact comp_set c t h2 h1 hc
  | compIf own sr g' k e' =>
    obtain ⟨i, y, rfl, h1, h2⟩ := lcOk_some (show lcOk B sc g tg v = true from h)
    exact compIf_set c t h2 h1 hc
  | _ => exact plain rfl
theorem Sts_cons {a : PL.St} {r : List PL.St} : Sts.ex C (a :: r) = bind (St.ex C a) fun o => match o with | .nx => Sts.ex C r | o => ret o := rfl
mutual
theorem sndT : ∀ (a : PL.St) (sc : Scope) (W : WX) (X : Cx) (s : Stmt), Cok F C n B sc W X → TopS F C n B sc W X → chkSt B sc a s = true → PS X s (tSt F W (St.ex C a))
  | .asg g e, sc, W, X, s, c, t, h => by
    replace h : (match asgX s with
      | some (tg, v) => gB B true sc g tg && chk B true sc e v && asgOk B sc g (isComp e) tg v
      | none => false) = true := h
    cases hx : asgX s with
    | none => rw [hx] at h; cases h
    | some tv =>
      obtain ⟨tg, v⟩ := tv
      rw [hx] at h
      simp only [Bool.and_eq_true] at h
      obtain ⟨pos, rfl⟩ := asgX_some hx
      exact asg_ok c t h.1.2 h.1.1 h.2
  | .swap is es, sc, W, X, s, c, t, h => by
    replace h : (match asgX s with
      | some (tg, v) => (match parOk sc tg v with
        | some (xs, vs) => chks B true sc es vs && decide (is.map (fun i => B.N[i]?) = xs.map some)
        | none => false)
      | none => false) = true := h
    cases hx : asgX s with
    | none => rw [hx] at h; cases h
    | some tv =>
      obtain ⟨tg, v⟩ := tv
      rw [hx] at h
      obtain ⟨pos, rfl⟩ := asgX_some hx
      cases hp : parOk sc tg v with
      | none =>
        have h : (match parOk sc tg v with | some (xs, vs) => chks B true sc es vs && decide (is.map (fun i => B.N[i]?) = xs.map some) | none => false) = true := h
        rw [hp] at h
        cases h
      | some xv =>
        obtain ⟨xs, vs⟩ := xv
        have h : (match parOk sc tg v with | some (xs, vs) => chks B true sc es vs && decide (is.map (fun i => B.N[i]?) = xs.map some) | none => false) = true := h
        rw [hp] at h
        simp only [Bool.and_eq_true, decide_eq_true_eq] at h
        obtain ⟨x, y, px, py, k, p, a, b, j, p2, rfl, rfl, rfl, rfl, l1, l2, hne, hl, s1, s2, f1, f2⟩ := parOk_some hp
        have hi : ∃ i1 i2, is = [i1, i2] ∧ B.N[i1]? = some x ∧ B.N[i2]? = some y := by
          have h2 := h.2
          match is, h2 with
          | [i1, i2], h2 =>
            simp only [List.map_cons, List.map_nil, List.cons.injEq, and_true] at h2
            exact ⟨i1, i2, rfl, h2.1, h2.2⟩
          | [], h2 => cases h2
          | [_], h2 => simp at h2
          | _ :: _ :: _ :: _, h2 => simp at h2
        obtain ⟨i1, i2, rfl, e1, e2⟩ := hi
        have q := snds es sc W X false true [a, b] c (fun _ => t.top) h.1
        have hij : i1 ≠ i2 := fun z => by
          subst z
          rw [e1] at e2
          exact hne (Option.some.inj e2)
        exact (ps_par c.calm (by rw [c.hN]; exact c.nd) (by rw [c.hN]; exact e1) (by rw [c.hN]; exact e2) hij (by rw [c.hsc]; exact l1) (by rw [c.hsc]; exact l2) q.ds
          (par_stores (by rw [c.hsc]; exact t.kind) (by rw [c.hsc]; exact l1) (by rw [c.hsc]; exact l2) hne hl s1 s2 f1 f2) rfl).wk fun De σ H q => st_swap2 q
  | .aug i p e, sc, W, X, s, c, t, h => by
    replace h : (match augX s with
      | some (x, op, v) => locB B true sc i x && decide (augOp p = some op) && chk B true sc e v
      | none => false) = true := h
    unfold augX at h
    split at h
    · rename_i hx
      split at hx
      · cases hx
        simp only [Bool.and_eq_true, decide_eq_true_eq] at h
        obtain ⟨l1, l2, l3⟩ := c.loc (fun _ => t.top.fn) h.1.1
        exact (ps_aug (by rw [c.hN]; exact c.nd) l1 l2 (snd e sc W X false true _ c (fun _ => t.top) h.2).val (ip_aug h.1.2) l3).wk fun De σ H q => st_aug rfl q
      · cases hx
    · cases h
  | .append i e, sc, W, X, s, c, t, h => by
    replace h : (match exprX s with
      | some v => (match methX "append" v with
        | some (o, a) => nameX B sc i o && chk B true sc e a
        | none => false)
      | none => false) = true := h
    unfold exprX at h
    split at h
    · rename_i hx
      split at hx
      · cases hx
        split at h
        · rename_i hm
          simp only [Bool.and_eq_true] at h
          obtain ⟨apos, cpos, rfl, hl, hp, hs⟩ := methX_some hm
          have h1 := h.1
          unfold nameX at h1
          split at h1
          · exact (ps_expr (pe_bm PySem.F.plainAttrs_list PySem.F.slot_list_append PySem.F.type_list_append mt_append (c.vis h1 _) (pa_cons (snd e sc W X false true _ c (fun _ => t.top) h.2).val pa_nil (star_cons hs _ _)) (attr_base hp _ _) (few1 hs _ _) hl (star_cons hs _ _) rfl) rfl).wk fun De σ H q => st_append q
          · cases h1
        · cases h
      · cases hx
    · cases h
  | .extend i e, sc, W, X, s, c, t, h => by
    replace h : (match exprX s with
      | some v => (match methX "extend" v with
        | some (o, a) => nameX B sc i o && chk B true sc e a
        | none => false)
      | none => false) = true := h
    unfold exprX at h
    split at h
    · rename_i hx
      split at hx
      · cases hx
        split at h
        · rename_i hm
          simp only [Bool.and_eq_true] at h
          obtain ⟨apos, cpos, rfl, hl, hp, hs⟩ := methX_some hm
          have h1 := h.1
          unfold nameX at h1
          split at h1
          · exact (ps_expr (pe_bm PySem.F.plainAttrs_list PySem.F.slot_list_extend PySem.F.type_list_extend mt_extend (c.vis h1 _) (pa_cons (snd e sc W X false true _ c (fun _ => t.top) h.2).val pa_nil (star_cons hs _ _)) (attr_base hp _ _) (few1 hs _ _) hl (star_cons hs _ _) rfl) rfl).wk fun De σ H q => st_extend q
          · cases h1
        · cases h
      · cases hx
    · cases h
  | .hput o k e, sc, W, X, s, c, t, h => by
    replace h : (match putX s with
      | some (x, y, v) => chk B true sc o x && chk B true sc k y && chk B true sc e v
      | none => false) = true := h
    unfold putX at h
    split at h
    · rename_i hx
      split at hx
      · split at hx
        · rename_i hn
          cases hx
          simp only [Bool.and_eq_true] at h
          exact (ps_dput (hu1 c) (snd o sc W X false true _ c (fun _ => t.top) h.1.1).val (snd k sc W X false true _ c (fun _ => t.top) h.1.2).val (snd e sc W X false true _ c (fun _ => t.top) h.2).val (no_swap hn _ _ _)).wk fun De σ H q => st_hput q
        · cases hx
      · cases hx
    · cases h
  | .happend o e, sc, W, X, s, c, t, h => by
    replace h : (match exprX s with
      | some v => (match methX "append" v with
        | some (x, a) => chk B true sc o x && chk B true sc e a
        | none => false)
      | none => false) = true := h
    unfold exprX at h
    split at h
    · rename_i hx
      split at hx
      · cases hx
        split at h
        · rename_i hm
          simp only [Bool.and_eq_true] at h
          obtain ⟨apos, cpos, rfl, hl, hp, hs⟩ := methX_some hm
          exact (ps_expr (pe_bm PySem.F.plainAttrs_list PySem.F.slot_list_append PySem.F.type_list_append mt_append (snd o sc W X false true _ c (fun _ => t.top) h.1).val (pa_cons (snd e sc W X false true _ c (fun _ => t.top) h.2).val pa_nil (star_cons hs _ _)) (attr_base hp _ _) (few1 hs _ _) hl (star_cons hs _ _) rfl) rfl).wk fun De σ H q => st_happend q
        · cases h
      · cases hx
    · cases h
  | .expr e, sc, W, X, s, c, t, h => by
    replace h : (match exprX s with
      | some v => noComp v && chk B true sc e v
      | none => false) = true := h
    unfold exprX at h
    split at h
    · rename_i hx
      split at hx
      · cases hx
        simp only [Bool.and_eq_true] at h
        exact (ps_expr (snd e sc W X false true _ c (fun _ => t.top) h.2).val (no_swap h.1 _ _ _)).wk fun De σ H q => st_expr q
      · cases hx
    · cases h
  | .if_ k a b, sc, W, X, s, c, t, h => by
    replace h : (match ifSX s with
      | some (x, p, q) => tF k && chk B true sc k x && chkSts B sc a p && chkSts B sc b q
      | none => false) = true := h
    unfold ifSX at h
    split at h
    · rename_i hx
      split at hx
      · cases hx
        simp only [Bool.and_eq_true] at h
        exact (ps_if ((snd k sc W X false true _ c (fun _ => t.top) h.1.1.2).tst h.1.1.1) (sndTs a sc W X _ c t h.1.2) (sndTs b sc W X _ c t h.2)).wk fun De σ H q => st_if q
      · cases hx
    · cases h
  | .while_ k b, sc, W, X, s, c, t, h => by
    replace h : (match whileX s with
      | some (x, p) => tF k && chk B true sc k x && chkSts B sc b p
      | none => false) = true := h
    unfold whileX at h
    split at h
    · rename_i hx
      split at hx
      · cases hx
        simp only [Bool.and_eq_true] at h
        exact (ps_while t.own ((snd k sc W X false true _ c (fun _ => t.top) h.1.2).tst h.1.1) (sndTs b sc W X _ c t h.2)).wk fun De σ H q => st_while q
      · cases hx
    · cases h
  | .for_ g sr b, sc, W, X, s, c, t, h => by
    replace h : (match forX s with
      | some (tg, it, p) => gB B true sc g tg && chkS B true sc sr it && chkSts B sc b p
      | none => false) = true := h
    unfold forX at h
    split at h
    · rename_i hx
      split at hx
      · split at hx
        · rename_i hn
          cases hx
          simp only [Bool.and_eq_true] at h
          exact (ps_for t.own c.calm (sndS sr sc W X false false true _ _ c (fun _ => t.top) h.1.2) (g_ok c (fun _ => t.top.fn) g _ h.1.1) (sndTs b sc W X _ c t h.2) (noSet_ok hn _)).wk fun De σ H q => st_for q
        · cases hx
      · cases hx
    · cases h
  | .ret e, sc, W, X, s, c, t, h => by
    replace h : (match retX s with
      | some (some v) => chk B true sc e v
      | _ => false) = true := h
    unfold retX at h
    split at h
    · rename_i hx
      split at hx
      · cases hx
        exact (ps_ret (snd e sc W X false true _ c (fun _ => t.top) h).val).wk fun De σ H q => st_ret q
      · cases hx
    · cases h
  | .retN, sc, W, X, s, c, t, h => by
    replace h : (match retX s with
      | some none => true
      | _ => false) = true := h
    unfold retX at h
    split at h
    · rename_i hx
      split at hx
      · cases hx
        exact ps_retN.wk fun De σ H q => st_retN q
      · cases hx
    · cases h
  | .cont, sc, W, X, s, c, t, h => by
    replace h : isCont s = true := h
    unfold isCont at h
    split at h
    · exact ps_continue.wk fun De σ H q => st_cont q
    · cases h
  | .brk, sc, W, X, s, c, t, h => by
    replace h : isBrk s = true := h
    unfold isBrk at h
    split at h
    · exact ps_break.wk fun De σ H q => st_brk q
    · cases h
  | .pass, sc, W, X, s, c, t, h => by
    replace h : isPass s = true := h
    unfold isPass at h
    split at h
    · exact ps_pass.wk fun De σ H q => st_nil q
    · cases h
  | .raise k, sc, W, X, s, c, t, h => by
    replace h : raiseX B sc k s = true := h
    unfold raiseX at h
    split at h
    · simp only [Bool.and_eq_true, decide_eq_true_eq] at h
      exact (ps_raise c.calm c.tk (t.exc _ _ h.1 _ _ _ _ _ h.2)).wk fun De σ H q => st_raise q
    · cases h
  | .freeze i, sc, W, X, s, c, t, h => by cases h
theorem sndTs : ∀ (as : List PL.St) (sc : Scope) (W : WX) (X : Cx) (ss : List Stmt), Cok F C n B sc W X → TopS F C n B sc W X → chkSts B sc as ss = true → PSs X ss (tSt F W (Sts.ex C as))
  | [], sc, W, X, ss, c, t, h => by
    replace h : ss.isEmpty = true := h
    cases ss with
    | cons _ _ => cases h
    | nil => exact pss_nil.wk fun De σ H q => st_nil q
  | a :: r, sc, W, X, ss, c, t, h => by
    by_cases hf : isFrz a = true
    · have h : chkSts B sc r ss = true := by
        cases ss with
        | nil =>
          have h : (if isFrz a then chkSts B sc r [] else false) = true := h
          rw [if_pos hf] at h
          exact h
        | cons s ss =>
          have h : (if isFrz a then chkSts B sc r (s :: ss) else (chkSt B sc a s && chkSts B sc r ss)) = true := h
          rw [if_pos hf] at h
          exact h
      cases a with
      | freeze i => exact (sndTs r sc W X ss c t h).wk fun De σ H q => st_freeze q
      | _ => cases hf
    · cases ss with
      | nil =>
        have h : (if isFrz a then chkSts B sc r [] else false) = true := h
        rw [if_neg hf] at h
        cases h
      | cons s ss =>
        have h : (if isFrz a then chkSts B sc r (s :: ss) else (chkSt B sc a s && chkSts B sc r ss)) = true := h
        rw [if_neg hf] at h
        simp only [Bool.and_eq_true] at h
        exact (pss_cons (sndT a sc W X _ c t h.1) (sndTs r sc W X _ c t h.2)).wk fun De σ H q => st_cons q
end
end
end PL
end
section
set_option linter.all false
set_option maxRecDepth 100000
set_option maxHeartbeats 16000000
/-! PL15: defs: each keeps what the little language says of it. -/
namespace PL
open PySem PySem.Spec PyProof.Rows L2

/-! ### a def's start and end -/
section
variable {F : Fx} {T0 : List (Addr × Str)} {w w' : Wd} {s' : S} {σ' : L2.St} {H H' : Hp} {v : V} {t : T}
theorem slots_d {args : List D} {m : Nat} {i : Nat} {t : T} (h : (args.map (fun x => some (T.d x)) ++ List.replicate m none)[i]? = some (some t)) : ∃ x, args[i]? = some x ∧ t = .d x := by
  by_cases hi : i < args.length
  · rw [List.getElem?_append_left (by rw [List.length_map]; exact hi), List.getElem?_map, List.getElem?_eq_getElem hi] at h
    cases h
    exact ⟨_, List.getElem?_eq_getElem hi, rfl⟩
  · rw [List.getElem?_append_right (by rw [List.length_map]; omega), List.getElem?_replicate] at h
    split at h <;> cases h
theorem start_no {args : List D} {m : Nat} {σ : L2.St} {a : Addr} : ¬ Own (args.map (fun x => some (T.d x)) ++ List.replicate m none) σ a := fun ⟨i, t, e1, e2, _⟩ => by
  obtain ⟨x, _, rfl⟩ := slots_d e1
  cases e2
theorem start_rel {N : List Str} {vs : List V} {args : List D} {h : Hs} {m : Nat} (r : Rel T0 w ⟨[], h⟩ [] H) (rs : RVs w vs args) (hm : m = N.length - vs.length) :
    Rel T0 w ⟨args.map (fun x => some (T.d x)) ++ List.replicate m none, h⟩ (L2.start N vs) H := by
  refine ⟨r.same, ?_, fun i t e => ?_, fun i j a t u z1 z2 o1 o2 _ _ => ?_, r.hp, r.tabs, r.nt⟩
  · show (args.map (fun x => some (T.d x)) ++ List.replicate m none).length = (vs.map some ++ List.replicate (N.length - vs.length) none).length
    rw [List.length_append, List.length_append, List.length_map, List.length_map, List.length_replicate, List.length_replicate, rs.length, hm, rs.length]
  · obtain ⟨x, e1, rfl⟩ := slots_d e
    obtain ⟨v, e2, q⟩ := rs.get e1
    refine ⟨v, ?_, q⟩
    show (vs.map some ++ List.replicate (N.length - vs.length) none)[i]? = _
    have hi : i < vs.length := (List.getElem?_eq_some_iff.mp e2).1
    rw [List.getElem?_append_left (by rw [List.length_map]; exact hi), List.getElem?_map, e2]
    rfl
  · obtain ⟨x, _, rfl⟩ := slots_d z1
    cases o1
/-- from within a def: seen from without -/
theorem At.leave {sl : List (Option T)} {σ : L2.St} {h : Hs} (hn : ∀ a, ¬ Own sl σ a) (b : At T0 w ⟨sl, h⟩ σ H w' s' σ' H') : At T0 w ⟨[], h⟩ [] H w' ⟨[], s'.hp⟩ [] H' :=
  ⟨b.le, b.rel.none, fun a o e n i m _ => b.fr a o e n i m (hn a), b.dom, fun a z => absurd z no_own⟩
theorem NewT.leave {sl : List (Option T)} {σ : L2.St} (hn : ∀ a, ¬ Own sl σ a) (n : NewT sl σ H v t) : NewT [] [] H v t := fun o a e => by
  rcases n o a e with z | z
  · exact absurd z (hn a)
  · exact .inr z
theorem Val.leave {sl : List (Option T)} {σ : L2.St} (q : Val w sl σ H v t) : Val w [] [] H v t := ⟨q.rt, fun _ _ _ => no_own⟩
end

/-! ### a def of the program -/
structure DD where
  x : Str
  st : Stmt
  N : List Str
  ps : List Str
  told : List (Str × Nat)
/-- what stands behind names, in a def -/
def bndOf (gc : List (Str × D)) (fn exc : List (Str × Nat)) (d : DD) : Bnd := ⟨d.N, gc, fn, exc, d.told⟩
def scOk (N P : List Str) (sc : Scope) : Bool := C8.scC N P sc
/-- the whole look at a def -/
def defOk (gc : List (Str × D)) (fn exc : List (Str × Nat)) (d : DD) (c : Def) : Bool :=
  C8.scC d.N d.ps (defScope d.st) && decide (c.np = d.ps.length) && decide (c.ns = d.N.length) && decide (d.ps.length ≤ d.N.length) && chkSts (bndOf gc fn exc d) (defScope d.st) c.body (defBody d.st)
section
variable {F : Fx} {P : Program} {w : World} {K : PySem.W.Frag} {mg : Str → Option Value} {base : Heap}
/-- what the facts say of names -/
structure Nms (F : Fx) (K : PySem.W.Frag) (mg : Str → Option Value) (gc : List (Str × D)) (exc : List (Str × Nat)) : Prop where
  bl : ∀ x ∈ (["len", "abs", "int", "sum", "tuple", "sorted", "range"] : List Str), mg x = none
  gc : ∀ x d, gc.lookup x = some d → ∃ v u, mg x = some u ∧ RelV v u ∧ ∀ w, RV w v d
  exc : ∀ x c, exc.lookup x = some c → ∃ (C : Addr) (bmB : List Value) (Bs newId initId : String), ExcBaseFacts Bs newId initId bmB ∧ PySem.W.excIn K C bmB newId = true ∧ mg x = some (.ref C) ∧ PySem.W.keepIn K (.ref C) = true ∧
    PySem.W.subIn K (.ref C) (.type "BaseException") = some true ∧ PySem.W.typeIn K (.ref C) = some (.type "type") ∧ F.cv c = .ref C
/-- the defs that may be called -/
def FnsOk (F : Fx) (P : Program) (w : World) (K : PySem.W.Frag) (mg : Str → Option Value) (base : Heap) (fn : List (Str × Nat)) (n : Nat) (call : Nat → List D → Hs → R T) : Prop :=
  ∀ x i, fn.lookup x = some i → ∃ g fd ps, FnOk P w K mg base (L2.CX P w) (3 * n) g fd ps (spec F (call i)) ∧ mg x = some (.ref g) ∧ PySem.W.keepIn K (.ref g) = true ∧ Binds K fd ps []
abbrev cxD (P : Program) (w : World) (K : PySem.W.Frag) (mg : Str → Option Value) (base : Heap) (d : DD) (f : Addr) (cdv : Value) (A : Around) (outer : List Env) (s : Shared) (H : Hp) (E : XK) : Cx :=
  cxOf (L2.CX P w) P w K mg base d.N d.x (defScope d.st) f cdv A outer s H E
theorem cok_def {gc : List (Str × D)} {fn exc : List (Str × Nat)} {d : DD} {n : Nat} {C : Ctx} (nm : Nms F K mg gc exc) (fo : FnsOk F P w K mg base fn n C.call) (hnd : d.N.Nodup) {f : Addr} {cdv : Value} {A : Around} {outer : List Env} {s : Shared} {H : Hp} {E : XK}
    (hr : Room (3 * n + 2) (A.deeper (envOfC d.x (defScope d.st) s.heap.objs.size f cdv))) :
    Cok F C n (bndOf gc fn exc d) (defScope d.st) (fun cls e _ H' => E cls e H') (cxD P w K mg base d f cdv A outer s H E) where
  hN := rfl
  nd := hnd
  hsc := rfl
  room := hr.mono (by omega)
  calm := rfl
  tk := takes_of rfl rfl rfl rfl
  bl := nm.bl
  gc := nm.gc
  fns := fo
theorem top_def {gc : List (Str × D)} {fn exc : List (Str × Nat)} {d : DD} {n : Nat} {C : Ctx} (nm : Nms F K mg gc exc) (hk : (defScope d.st).kind = .function) {f : Addr} {cdv : Value} {A : Around} {outer : List Env} {s : Shared} {H : Hp} {E : XK}
    (hl : LamOk F C n (bndOf gc fn exc d) (defScope d.st) (fun cls e _ H' => E cls e H') (cxD P w K mg base d f cdv A outer s H E)) :
    TopS F C n (bndOf gc fn exc d) (defScope d.st) (fun cls e _ H' => E cls e H') (cxD P w K mg base d f cdv A outer s H E) where
  top := ⟨hl, fun _ => rfl⟩
  kind := hk
  own := passes_of rfl
  exc := fun x c h m j p p2 pos hg => by
    obtain ⟨Ca, bmB, Bs, ni, ii, e1, e2, e3, e4, e5, e6, e7⟩ := nm.exc x c h
    unfold glB at hg
    simp only [Bool.and_eq_true, decide_eq_true_eq, Bool.not_eq_true'] at hg
    rw [e7]
    exact pmk_own e1 e2 e3 e4 (raises_own e5 e6) hg.1.1 hg.1.2
/-- what is read of the body is what is asked of the def -/
theorem body_read {N : List Str} {c : Def} {C : Ctx} {vs : List V} {H : Hp} {Q : VK} {E : XK} (hns : c.ns = N.length) (h : spec F (fun args h => c.run C args h) vs H Q E) :
    vs.length = c.np ∧ tSt F (fun cls e _ H' => E cls e H') (Sts.ex C c.body) { nx := fun _ H' => Q .non H', rt := Q } (L2.start N vs) H := by
  obtain ⟨w0, args, hp, r, rs, q⟩ := h
  replace q : wp (c.run C args hp) (fun t s' => Fin F w0 ⟨[], hp⟩ [] H Q t ⟨[], s'.hp⟩) (fun c g => ∀ w' H', Le w0 w' → Rel F.T0 w' ⟨[], g⟩ [] H' → Fr w0 [] [] H w' H' → Dom H H' → E (F.cv c) none H') := q
  have hl : args.length = c.np := by
    by_cases z : args.length = c.np
    · exact z
    · have e : c.run C args hp = .bad := if_neg z
      rw [e] at q
      exact q.elim
  have e : c.run C args hp = (match Sts.ex C c.body ⟨c.start args, hp⟩ with
    | .ok .nx s => .ok (.d .non) ⟨[], s.hp⟩
    | .ok (.rt t) s => .ok t ⟨[], s.hp⟩
    | .ok _ _ => .bad
    | .ex c h => .ex c h
    | .bad => .bad) := if_pos hl
  rw [e] at q
  have hv : vs.length = c.np := by rw [rs.length, hl]
  refine ⟨hv, w0, ⟨c.start args, hp⟩, start_rel r rs (by rw [hns, hv]), ?_⟩
  cases e2 : Sts.ex C c.body ⟨c.start args, hp⟩ with
  | bad => rw [e2] at q; exact q.elim
  | ex k g =>
    rw [e2] at q
    intro w' H' l r' f d _
    exact q w' H' l r' (fun a o z1 z2 z3 z4 _ => f a o z1 z2 z3 z4 start_no) d
  | ok o s =>
    rw [e2] at q
    intro w' H' σ' a
    have a' := At.leave (fun _ => start_no) a
    cases o with
    | nx => exact q w' H' .non a' (Val.d .non) NewT.d
    | rt t => exact fun v val n => q w' H' v a' val.leave (n.leave fun _ => start_no)
    | bk => exact q.elim
    | ct => exact q.elim
abbrev FnP (K : PySem.W.Frag) (x : Str) (st : Stmt) (f : Addr) (fd : FuncData) : Prop := FunD K x x (defArgs st) (defBody st) (defScope st) [] [] f fd
/-- a def without lambdas -/
theorem def_fn {gc : List (Str × D)} {fn exc : List (Str × Nat)} {d : DD} {c : Def} {n : Nat} {C : Ctx} {f : Addr} {fd : FuncData} (Fn : FnP K d.x d.st f fd) (nm : Nms F K mg gc exc) (fo : FnsOk F P w K mg base fn n C.call) (ht : d.told = [])
    (h : defOk gc fn exc d c = true) : FnOk P w K mg base (L2.CX P w) (3 * (n + 1)) f fd d.ps (spec F (fun args h => c.run C args h)) := by
  unfold defOk at h
  simp only [Bool.and_eq_true, decide_eq_true_eq] at h
  obtain ⟨⟨⟨⟨h1, h2⟩, h3⟩, _⟩, h4⟩ := h
  have S := C8.fnScope_by h1
  refine FunD.ok (k := 3 * n + 2) Fn S (fun vs H Q E q => by rw [(body_read (N := d.N) h3 q).1, h2]) fun cdv A outer s H vs Q E hr q => ?_
  refine ⟨_, sndTs c.body (defScope d.st) _ _ (defBody d.st) (cok_def nm fo S.nd hr) (top_def nm S.kind fun name k _ _ _ _ _ _ _ _ z => ?_) h4, (body_read h3 q).2⟩
  have z : d.told.lookup name = some k := z
  rw [ht] at z
  cases z
end
end PL
end
section
set_option linter.all false
set_option maxRecDepth 100000
set_option maxHeartbeats 16000000
/-! PL16: lambdas that are tried; all defs of a program. -/
namespace PL
open PySem PySem.Spec PyProof.Rows L2
section
variable {F : Fx} {T0 : List (Addr × Str)} {w w' : Wd} {s s' : S} {σ σ' : L2.St} {H H1 H' : Hp} {v : V} {t : T}
theorem hide_sub {sl : List (Option T)} {i : Nat} {t : T} (h : (hide sl)[i]? = some (some t)) : sl[i]? = some (some t) ∧ ∃ x, t = .d x := by
  unfold hide at h
  rw [List.getElem?_map] at h
  cases e : sl[i]? with
  | none => rw [e] at h; cases h
  | some o =>
    rw [e] at h
    cases o with
    | none => cases h
    | some u =>
      cases u with
      | ol _ => cases h
      | d x =>
        cases h
        exact ⟨rfl, x, rfl⟩
theorem hide_len (sl : List (Option T)) : (hide sl).length = sl.length := by
  unfold hide
  rw [List.length_map]
theorem hide_no {sl : List (Option T)} {a : Addr} : ¬ Own (hide sl) σ a := fun ⟨i, t, e1, e2, _⟩ => by
  obtain ⟨_, x, rfl⟩ := hide_sub e1
  cases e2
/-- only tables have grown -/
theorem Rel.extN (r : Rel T0 w s σ H) (e : LamX.ExtN H H1) (T1 : LamX.Tabs T0 H1) : Rel T0 w s σ H1 := by
  refine ⟨fun a o h => e a o (r.same a o h) fun ps z => r.nt a ps (by rw [h, z]), r.len, fun i t h => ?_, r.dis, ⟨r.hp.len, r.hp.nd, fun n o h => ?_⟩, T1, r.nt⟩
  · obtain ⟨v, e1, q⟩ := r.sl i t h
    refine ⟨v, e1, ?_⟩
    cases t with
    | d x => exact q
    | ol xs =>
      obtain ⟨a, vs, ev, h, q⟩ := q
      exact ⟨a, vs, ev, e a _ h (fun _ z => nomatch z), q⟩
  · obtain ⟨a, e1, e2, q⟩ := r.hp.at_ n o h
    refine ⟨a, e1, e2, ?_⟩
    cases o with
    | dct kvs =>
      obtain ⟨ks, h, q⟩ := q
      exact ⟨ks, e a _ h (fun _ z => nomatch z), q⟩
    | lst kvs =>
      obtain ⟨ks, h, q⟩ := q
      exact ⟨ks, e a _ h (fun _ z => nomatch z), q⟩
theorem At.extN (r : Rel T0 w s σ H) (e : LamX.ExtN H H1) (T1 : LamX.Tabs T0 H1) : At T0 w s σ H w s σ H1 := by
  refine ⟨Le.refl _, r.extN e T1, fun a o h hn hi hm _ => ⟨e a o h hn, hi, hm⟩, fun a g o h => ?_, fun _ z => .inl z⟩
  by_cases z : ∃ ps, o = .tbl ps
  · exact z
  · exact g o (e a o h fun ps q => z ⟨ps, q⟩)

/-- try: return a() / except e: return None -/
def TNone (K : PySem.W.Frag) (CS : Addr) : (XK → Hp → VK → Prop) → Hp → VK → Prop := fun tl H Q =>
  tl (fun cls _ H' => ∃ b, PySem.W.exmOne K cls (.ref CS) = some b ∧ (b = true → Q .non H') ∧ (b = false → False)) H Q
theorem none_gives {X : Cx} {Ng : List Str} {x a e q : Str} {sg : Scope} {g CS : Addr} {cdg : Value} {j : Nat} {p1 p2 p3 p4 p5 p6 p7 p8 : Pos} (hge : sg.names.lookup e = some .globalImplicit) (hme : X.mg e = some (.ref CS)) (hde : (e == ("__debug__" : Str)) = false)
    (h0 : ∀ f : Addr, (L2.start Ng [V.ref f])[0]? = some (some (V.ref f))) :
    LamX.GivesTo X Ng x sg g cdg [.Try [.Return (some (.Call (.Name a p1) [] [] p2)) p3] [.ExceptHandler (some (.Name e p4)) none [.Return (some (.Constant .none j p5)) p6] p7] [] [] p8] a q (TNone X.K CS) := by
  intro f c' s H Q tl act hc h
  refine ⟨_, pss_one (ps_try_only (X := (cxOf C8.CX0 X.prog X.w X.K X.mg X.base Ng x sg g cdg X.A X.stack s H C8.E0).nox) (c := .ref CS)
      (tb := fun W D σ H => ∃ Ech : XK, (∀ cls d σ' H', Ech cls d H' → W cls d σ' H') ∧ σ[0]? = some (some (.ref f)) ∧ H c' = some (LamX.CodeO c' q) ∧ tl Ech H D.rt)
      rfl rfl ⟨hge, hde, .inl hme⟩ takes0 (fun W pn xe tk _ => ?_) (fun a oe cls d pn _ _ => pss_one (ps_ret pe_non))), ?_⟩
  · refine ⟨fun pins s' σ H' D I h' => ?_⟩
    obtain ⟨Ech, hW, h1, h2, h3⟩ := h'
    exact (pss_one (ps_ret (pos := p3) (act W pn xe Ech p1 p2 tk hW))).run pins s' σ H' D I ⟨h1, h2, h3⟩
  · exact ⟨fun cls _ H' => ∃ b, PySem.W.exmOne X.K cls (.ref CS) = some b ∧ (b = true → Q .non H') ∧ (b = false → False), fun cls d σ' H' ⟨b, e1, e2, e3⟩ => ⟨b, e1, fun hb a _ => e2 hb, fun hb => e3 hb⟩, h0 f, hc, h⟩

/-- the reading of what is tried -/
theorem tE_tried {W : WX} {C : Ctx} {ro : Bool} {k c0 : Nat} {e : E} {K : PySem.W.Frag} {CS : Addr} {Q : VK} (hh : C.hd k = some ⟨c0, none, .non⟩) (hc : F.cv c0 = .ref CS) (hx : PySem.W.exmOne K (.ref CS) (.ref CS) = some true)
    (h : tE F W (E.ev C ro (.tried k e)) σ H Q) : LamX.tLam F.T0 (TNone K CS) (fun EE => tE F (fun cls d _ H => EE cls d H) (E.ev C true e)) σ H Q := by
  obtain ⟨w, s, r, h⟩ := h
  refine ⟨r.tabs, fun H1 eN T1 => ?_⟩
  have a0 := At.extN r eN T1
  have r1 := r.extN eN T1
  have h : wp (match C.hd k with
    | none => R.bad
    | some hh => match E.ev C true e ⟨hide s.sl, s.hp⟩ with
      | R.ok (T.d x) s' => R.ok (T.d (match hh.onOk with | some y => y | none => x)) ⟨s.sl, s'.hp⟩
      | R.ex c hp => if c = hh.exc then R.ok (T.d hh.onEx) ⟨s.sl, hp⟩ else R.bad
      | _ => R.bad) (Fin F w s σ H Q) (Exc F W w s σ H) := h
  rw [hh] at h
  dsimp only at h
  refine ⟨w, ⟨hide s.sl, s.hp⟩, r1.fewer (by rw [hide_len]; exact r1.len) fun i t z => ⟨(hide_sub z).1, rfl⟩, ?_⟩
  cases e1 : E.ev C true e ⟨hide s.sl, s.hp⟩ with
  | bad => rw [e1] at h; exact h.elim
  | ok t s' =>
    rw [e1] at h
    cases t with
    | ol _ => exact h.elim
    | d x =>
      have h : Fin F w s σ H Q (.d x) ⟨s.sl, s'.hp⟩ := h
      intro w' H' v a val n
      have b := At.lift r1 a (fun i t z => ⟨(hide_sub z).1, rfl⟩) fun i t e o => .inr fun u z => by
        obtain ⟨z1, y, rfl⟩ := hide_sub z
        rw [z1] at e
        cases e
        cases o
      exact h w' H' v (a0.trans b) (Val.d val.rt) NewT.d
  | ex c hp =>
    rw [e1] at h
    dsimp only at h
    by_cases ec : c = c0
    · rw [if_pos ec] at h
      subst ec
      have h : Fin F w s σ H Q (.d .non) ⟨s.sl, hp⟩ := h
      intro w' H' l r' f d σ'
      refine ⟨true, by rw [hc]; exact hx, fun _ => ?_, fun z => nomatch z⟩
      have b0 : At F.T0 w ⟨[], s.hp⟩ [] H1 w' ⟨[], hp⟩ [] H' := ⟨l, r', fun a o z n i m _ => f a o z n i m hide_no, d, fun a z => absurd z no_own⟩
      have b := At.lift r1 b0 (fun i t e => by simp at e) (fun i t _ _ => .inr fun u z => by simp at z)
      exact h w' H' .non (a0.trans b) (Val.d .non) NewT.d
    · rw [if_neg ec] at h
      exact h.elim
end
end PL
end
section
set_option linter.all false
set_option maxRecDepth 100000
set_option maxHeartbeats 16000000
/-! PL17: all defs of a program; the law's own def. -/
namespace PL
open PySem PySem.Spec PyProof.Rows L2
section
variable {F : Fx} {P : Program} {w : World} {K : PySem.W.Frag} {mg : Str → Option Value} {base : Heap}
theorem lookup_one {β : Type} {x y : Str} {a b : β} (h : List.lookup y [(x, a)] = some b) : y = x ∧ b = a := by
  simp only [List.lookup] at h
  split at h
  · rename_i e
    cases h
    exact ⟨by simpa using e, rfl⟩
  · cases h
/-- x(lambda: ..) where x tries and hands back None -/
theorem lam_def {gc : List (Str × D)} {fn exc : List (Str × Nat)} {d : DD} {n : Nat} {C : Ctx} {xt a ex : Str} {sT : Stmt} {g CS c Pt : Addr} {fdT : FuncData} {Ng : List Str} {c0 : Nat} {f : Addr} {A : Around} {outer : List Env} {s : Shared} {H : Hp} {Ex : XK}
    {j : Nat} {p1 p2 p3 p4 p5 p6 p7 p8 : Pos} (nm : Nms F K mg gc exc) (fo : FnsOk F P w K mg base fn n C.call) (hnd : d.N.Nodup)
    (FT : FnP K xt sT g fdT) (mgT : mg xt = some (.ref g)) (bT : Binds K fdT [a] []) (ST : FnScope Ng [a] (defScope sT)) (hNg : Ng[0]? = some a) (hva : Vis (defScope sT) a)
    (hb : defBody sT = [.Try [.Return (some (.Call (.Name a p1) [] [] p2)) p3] [.ExceptHandler (some (.Name ex p4)) none [.Return (some (.Constant .none j p5)) p6] p7] [] [] p8])
    (hge : (defScope sT).names.lookup ex = some .globalImplicit) (hme : mg ex = some (.ref CS)) (hde : (ex == ("__debug__" : Str)) = false) (exm : PySem.W.exmOne K (.ref CS) (.ref CS) = some true)
    (hda : (a == ("__debug__" : Str)) = false) (hca : (a == ("__classdict__" : Str)) = false)
    (hh : C.hd 0 = some ⟨c0, none, .non⟩) (hc : F.cv c0 = .ref CS) (dt : d.told = [(xt, 0)]) (TB : LamX.TabB base mg c Pt) (hT0 : F.T0 = [(Pt, (d.x ++ ".<locals>.") ++ "<lambda>")])
    (h0 : ∀ f : Addr, (L2.start Ng [V.ref f])[0]? = some (some (V.ref f))) (hr : Room (3 * n + 2) (A.deeper (envOfC d.x (defScope d.st) s.heap.objs.size f (.ref c)))) :
    LamOk F C n (bndOf gc fn exc d) (defScope d.st) (fun cls e _ H' => Ex cls e H') (cxD P w K mg base d f (.ref c) A outer s H Ex) := by
  intro name k params body scope p lpos pos e ro hl hg hp hls ih
  have hl : d.told.lookup name = some k := hl
  rw [dt] at hl
  obtain ⟨rfl, rfl⟩ := lookup_one hl
  obtain ⟨⟨oc, od, dV, kV, doc, pm, an, cdv, ct, osl, rfl, lk, hcd, _, _⟩, kp⟩ := FT
  unfold glB at hg
  simp only [Bool.and_eq_true, decide_eq_true_eq, Bool.not_eq_true'] at hg
  have hpar : params = ⟨[], [], none, [], [], none, []⟩ := by
    unfold noArgs at hp
    split at hp
    · rfl
    · cases hp
  subst hpar
  refine (LamX.pe_lamcall (X := cxD P w K mg base d f (.ref c) A outer s H Ex) (T := F.T0) (TT := TNone K CS) (t := fun EE => tE F (fun cls d _ H => EE cls d H) (PL.E.ev C true e)) (k := 3 * n) (a := a) (Ng := Ng) (c := c) (P := Pt) hg.1.1 mgT kp lk hcd bT ST hNg hva ?_ TB rfl ?_ ?_ hr (LamX.lamS_by hls) rfl (fun _ _ _ _ _ => rfl) (fun A' outer' s' H' Ex' f' c' hr' => ?_) hg.1.2 hda hca).wk
    fun σ H Q q => tE_tried hh hc exm q
  · rw [hb]
    exact none_gives hge hme hde h0
  · rw [hT0]
    exact List.mem_cons_self
  · intro p hp _
    rw [hT0] at hp
    rw [List.mem_singleton.mp hp]
    rfl
  · refine ih _ _ ?_
    exact {
      hN := rfl
      nd := hnd
      hsc := rfl
      room := hr'
      calm := rfl
      tk := takes_of rfl rfl rfl rfl
      bl := nm.bl
      gc := nm.gc
      fns := fo }

/-- all the defs that are called -/
theorem all_ok {p : Prog} {ds : List DD} {gc : List (Str × D)} {fn exc : List (Str × Nat)} (nm : Nms F K mg gc exc) (hfn : ∀ x i, fn.lookup x = some i → ∃ d, ds[i]? = some d ∧ d.x = x)
    (hck : ∀ (i : Nat) (d : DD), ds[i]? = some d → ∃ c, p.defs[i]? = some c ∧ defOk gc fn exc d c = true ∧ d.told = [])
    (facts : ∀ (i : Nat) (d : DD), ds[i]? = some d → ∃ f fd, FnP K d.x d.st f fd ∧ mg d.x = some (.ref f) ∧ Binds K fd d.ps []) : ∀ n, FnsOk F P w K mg base fn n (p.call n)
  | 0 => fun x i h => by
    obtain ⟨d, e, rfl⟩ := hfn x i h
    obtain ⟨f, fd, F1, m1, b1⟩ := facts i d e
    have no : ∀ vs H Q E, ¬ spec F (p.call 0 i) vs H Q E := fun vs H Q E ⟨w, args, hp, r, rs, q⟩ => q
    exact ⟨f, fd, d.ps, ⟨fun vs H Q E q => (no _ _ _ _ q).elim, fun _ _ _ _ _ _ _ _ _ _ _ _ _ q => (no _ _ _ _ q).elim⟩, m1, F1.kp, b1⟩
  | n + 1 => fun x i h => by
    obtain ⟨d, e, rfl⟩ := hfn x i h
    obtain ⟨f, fd, F1, m1, b1⟩ := facts i d e
    obtain ⟨c, e1, e2, e3⟩ := hck i d e
    have ih := all_ok nm hfn hck facts n
    refine ⟨f, fd, d.ps, (def_fn (C := p.ctx n) F1 nm ih e3 e2).imp fun vs H Q E q => ?_, m1, F1.kp, b1⟩
    obtain ⟨w, args, hp, r, rs, q⟩ := q
    refine ⟨w, args, hp, r, rs, ?_⟩
    have ec : p.call (n + 1) i args hp = c.run (p.ctx n) args hp := by
      show (match p.defs[i]? with | some d => d.run ⟨p.call n, p.hd, p.fuel⟩ args hp | none => .bad) = _
      rw [e1]
      rfl
    rw [ec] at q
    exact q
/-- the law: a def with lambdas, or without -/
theorem law_fn {p : Prog} {gc : List (Str × D)} {fn exc : List (Str × Nat)} {d : DD} {m n : Nat} {f : Addr} {fd : FuncData} {c : Def} {ps : List Str}
    (FL : FnP K d.x d.st f fd) (hps : d.ps = ps)
    (nm : Nms F K mg gc exc) (fo : FnsOk F P w K mg base fn n (p.call n)) (hm : p.defs[m]? = some c) (h : defOk gc fn exc d c = true)
    (hl : ∀ (oc : Value) (od : Option Addr) (osl : Array (Option Value)) (cdv : Value), K.lookup f = some ⟨oc, od, .func fd, osl⟩ → fd.code = cdv → PySem.W.codeIn K cdv d.x = true → ∀ (A : Around) (outer : List Env) (s : Shared) (H : Hp) (E : XK), Room (3 * n + 2) (A.deeper (envOfC d.x (defScope d.st) s.heap.objs.size f cdv)) →
      LamOk F (p.ctx n) n (bndOf gc fn exc d) (defScope d.st) (fun cls e _ H' => E cls e H') (cxD P w K mg base d f cdv A outer s H E)) :
    FnOk P w K mg base (L2.CX P w) (3 * n + 3) f fd ps (spec F (p.call (n + 1) m)) := by
  obtain ⟨⟨oc, od, dV, kV, doc, pm, an, cdv, ct, osl, rfl, lk, hcd, _, _⟩, kp⟩ := FL
  subst hps
  unfold defOk at h
  simp only [Bool.and_eq_true, decide_eq_true_eq] at h
  obtain ⟨⟨⟨⟨h1, h2⟩, h3⟩, _⟩, h4⟩ := h
  have S := C8.fnScope_by h1
  have sp : ∀ vs H Q E, spec F (p.call (n + 1) m) vs H Q E → spec F (fun args h => c.run (p.ctx n) args h) vs H Q E := fun vs H Q E q => by
    obtain ⟨w, args, hp, r, rs, q⟩ := q
    refine ⟨w, args, hp, r, rs, ?_⟩
    have ec : p.call (n + 1) m args hp = c.run (p.ctx n) args hp := by
      show (match p.defs[m]? with | some d => d.run ⟨p.call n, p.hd, p.fuel⟩ args hp | none => .bad) = _
      rw [hm]
      rfl
    rw [ec] at q
    exact q
  refine fn_of (k := 3 * n + 2) lk hcd S (fun vs H Q E q => by rw [(body_read (N := d.N) h3 (sp _ _ _ _ q)).1, h2]) fun A outer s H vs Q E hr q => ?_
  exact ⟨_, sndTs c.body (defScope d.st) _ _ (defBody d.st) (cok_def (C := p.ctx n) nm fo S.nd hr) (top_def nm S.kind (hl oc od osl cdv lk rfl hcd A outer s H E hr)) h4, (body_read h3 (sp _ _ _ _ q)).2⟩
end
/-- tables of defs -/
def fnTab : List DD → Nat → List (Str × Nat)
  | [], _ => []
  | d :: ds, i => (d.x, i) :: fnTab ds (i + 1)
theorem fnTab_ok : ∀ (ds : List DD) (k : Nat) (x : Str) (i : Nat), (fnTab ds k).lookup x = some i → ∃ j d, i = k + j ∧ ds[j]? = some d ∧ d.x = x
  | [], k, x, i, h => by cases h
  | d :: ds, k, x, i, h => by
    unfold fnTab at h
    simp only [List.lookup] at h
    split at h
    · rename_i e
      cases h
      exact ⟨0, d, rfl, rfl, (by simpa using e : x = d.x).symm⟩
    · obtain ⟨j, d', e1, e2, e3⟩ := fnTab_ok ds (k + 1) x i h
      exact ⟨j + 1, d', by omega, e2, e3⟩
/-- each def is looked at -/
def defsOk (gc : List (Str × D)) (fn exc : List (Str × Nat)) : List DD → List Def → Bool
  | [], _ => true
  | d :: ds, c :: cs => defOk gc fn exc d c && d.told.isEmpty && defsOk gc fn exc ds cs
  | _ :: _, [] => false
theorem defsOk_ok {gc : List (Str × D)} {fn exc : List (Str × Nat)} : ∀ {ds : List DD} {cs : List Def}, defsOk gc fn exc ds cs = true → ∀ (i : Nat) (d : DD), ds[i]? = some d → ∃ c, cs[i]? = some c ∧ defOk gc fn exc d c = true ∧ d.told = []
  | [], _, _, i, d, h => by simp at h
  | e :: ds, c :: cs, q, 0, d, h => by
    cases h
    unfold defsOk at q
    simp only [Bool.and_eq_true] at q
    exact ⟨c, rfl, q.1.1, List.isEmpty_iff.mp q.1.2⟩
  | e :: ds, c :: cs, q, i + 1, d, h => by
    unfold defsOk at q
    simp only [Bool.and_eq_true] at q
    exact defsOk_ok q.2 i d h
  | _ :: _, [], q, _, _, _ => by cases q
end PL
end
section
set_option linter.all false
set_option maxRecDepth 100000
set_option maxHeartbeats 4000000
/-! PL18: the little language, evaluated by simp: one lemma for each construct; comprehensions and loops stay closed. -/
namespace PL
open PySem
section
variable {C : Ctx} {ro : Bool}
theorem ev_var {i : Nat} : E.ev C ro (.var i) = see fun s => match slot s i with
  | some (.d x) => some (.d x)
  | _ => none := rfl
theorem ev_mv {i : Nat} : E.ev C false (.mv i) = fun s => match slot s i with
  | some t => .ok t (setSl s i none)
  | none => .bad := rfl
theorem ev_pop {i : Nat} : E.ev C false (.pop i) = fun s => match slot s i with
  | some (.ol xs) => match xs.getLast? with
    | some x => .ok (.d x) (setSl s i (some (.ol xs.dropLast)))
    | none => .bad
  | _ => .bad := rfl
theorem ev_cst {x : D} : E.ev C ro (.cst x) = PL.ret (.d x) := rfl
theorem ev_tup {es : List E} : E.ev C ro (.tup es) = PL.bind (E.evs C ro es) fun ds => PL.ret (.d (.tup ds)) := rfl
theorem ev_lst {es : List E} : E.ev C ro (.lst es) = PL.bind (E.evs C ro es) fun ds => PL.ret (.ol ds) := rfl
theorem ev_hlst {es : List E} : E.ev C ro (.hlst es) = PL.bind (E.evs C ro es) fun ds => fun s => .ok (.d (.ref s.hp.length)) ⟨s.sl, s.hp ++ [.lst ds]⟩ := rfl
theorem ev_hdict {ks : List Str} {vs : List E} : E.ev C ro (.hdict ks vs) = PL.bind (E.evs C ro vs) fun ds => fun s => .ok (.d (.ref s.hp.length)) ⟨s.sl, s.hp ++ [.dct (ks.zip ds)]⟩ := rfl
theorem ev_prim {p : P} {es : List E} : E.ev C ro (.prim p es) = PL.bind (E.avs C ro es) fun as => runP p as := rfl
theorem ev_and {a b : E} : E.ev C ro (.and_ a b) = PL.bind (PL.bind (avOf a (E.ev C ro a)) truthAv) fun c => if c then E.ev C ro b else PL.ret (.d (.bl false)) := rfl
theorem ev_or {a b : E} : E.ev C ro (.or_ a b) = PL.bind (PL.bind (avOf a (E.ev C ro a)) truthAv) fun c => if c then PL.ret (.d (.bl true)) else E.ev C ro b := rfl
theorem ev_not {a : E} : E.ev C ro (.not_ a) = PL.bind (PL.bind (avOf a (E.ev C ro a)) truthAv) fun c => PL.ret (.d (.bl (!c))) := rfl
theorem ev_ite {c a b : E} : E.ev C ro (.ite c a b) = PL.bind (PL.bind (avOf c (E.ev C ro c)) truthAv) fun k => if k then E.ev C ro a else E.ev C ro b := rfl
theorem ev_chain {p q : P} {a b c : E} : E.ev C ro (.chain p q a b c) = PL.bind (avOf a (E.ev C ro a)) fun x => PL.bind (avOf b (E.ev C ro b)) fun y => PL.bind (runP p [x, y]) fun r => match r with
  | .d (.bl true) => PL.bind (avOf c (E.ev C ro c)) fun z => runP q [y, z]
  | .d (.bl false) => PL.ret (.d (.bl false))
  | _ => PL.fail := rfl
theorem ev_call {f : Nat} {es : List E} : E.ev C ro (.call f es) = PL.bind (E.evs C ro es) fun ds => fun s => match C.call f ds s.hp with
  | .ok t s' => .ok t ⟨s.sl, s'.hp⟩
  | .ex c h => .ex c h
  | .bad => .bad := rfl
theorem evs_nil : E.evs C ro [] = PL.ret [] := rfl
theorem evs_cons {e : E} {es : List E} : E.evs C ro (e :: es) = PL.bind (E.ev C ro e) fun t => PL.bind (needD t) fun d => PL.bind (E.evs C ro es) fun ds => PL.ret (d :: ds) := rfl
theorem avs_nil : E.avs C ro [] = PL.ret [] := rfl
theorem avs_cons {e : E} {es : List E} : E.avs C ro (e :: es) = PL.bind (avOf e (E.ev C ro e)) fun t => PL.bind (E.avs C ro es) fun ts => PL.ret (t :: ts) := rfl
theorem src_of {e : E} {ow : Bool} : Src.ev C ro ow (.of e) = PL.bind (avOf e (E.ev C ro e)) fun a => see fun s => walkAv ow s a := rfl
theorem src_range {e : E} {ow : Bool} : Src.ev C ro ow (.range e) = PL.bind (E.ev C ro e) fun t => PL.lift (rangeT (.d (.int 0)) t) := rfl
theorem src_range2 {a b : E} {ow : Bool} : Src.ev C ro ow (.range2 a b) = PL.bind (E.ev C ro a) fun t => PL.bind (E.ev C ro b) fun u => PL.lift (rangeT t u) := rfl
/-- a comprehension, by its turns -/
theorem ev_comp {own : List Nat} {sr : Src} {g : G} {e : E} {s s1 s2 : S} {xs ds : List D} (h1 : Src.ev C ro true sr s = .ok xs s1) (hl : xs.length < 100000)
    (ht : turns (wipe s1.sl own) (fun x => PL.bind (G.put g (.d x)) fun _ => PL.bind (E.ev C true e) fun t => PL.bind (needD t) fun d => PL.ret (some d)) xs s1.hp = .ok ds s2) : E.ev C ro (.comp own sr g e) s = .ok (.ol ds) ⟨s1.sl, s2.hp⟩ := by
  show (PL.bind (Src.ev C ro true sr) fun xs => fun s => if big ≤ xs.length then .bad else match turns (wipe s.sl own) (fun x => PL.bind (G.put g (.d x)) fun _ => PL.bind (E.ev C true e) fun t => PL.bind (needD t) fun d => PL.ret (some d)) xs s.hp with
    | R.ok ds s' => R.ok (T.ol ds) ⟨s.sl, s'.hp⟩
    | _ => R.bad) s = _
  unfold PL.bind at ht ⊢
  rw [h1]
  dsimp only
  rw [if_neg (by rw [big_eq]; omega), ht]
theorem st_asg_ {g : G} {e : E} : PL.St.ex C (.asg g e) = PL.bind (E.ev C false e) fun t => PL.bind (G.put g t) fun _ => PL.ret .nx := rfl
theorem st_swap_ {is : List Nat} {es : List E} : PL.St.ex C (.swap is es) = PL.bind (E.evs C false es) fun ds => swapPut is ds := rfl
theorem st_aug_ {i : Nat} {p : P} {e : E} : PL.St.ex C (.aug i p e) = PL.bind (E.ev C false (.var i)) fun x => PL.bind (E.ev C false e) fun y => PL.bind (PL.lift (augT p x y)) fun t => PL.bind (G.put (.nm i) t) fun _ => PL.ret .nx := rfl
theorem st_append_ {i : Nat} {e : E} : PL.St.ex C (.append i e) = PL.bind (isOl i) fun _ => PL.bind (E.ev C false e) fun t => PL.bind (needD t) fun d => fun s => match slot s i with
  | some (.ol xs) => if xs.length < big then .ok .nx (setSl s i (some (.ol (xs ++ [d])))) else .bad
  | _ => .bad := rfl
theorem st_hput_ {o k e : E} : PL.St.ex C (.hput o k e) = PL.bind (E.ev C false e) fun t => PL.bind (needD t) fun d => PL.bind (E.ev C false o) fun a => PL.bind (E.ev C false k) fun b => fun s => match a, b with
  | .d (.ref n), .d (.str z) => match s.hp[n]? with
    | some (.dct kvs) => if kvs.length < 1000 then .ok .nx ⟨s.sl, s.hp.set n (.dct (kPut kvs z d))⟩ else .bad
    | _ => .bad
  | _, _ => .bad := rfl
theorem st_happend_ {o e : E} : PL.St.ex C (.happend o e) = PL.bind (E.ev C false o) fun a => PL.bind (isLref a) fun _ => PL.bind (E.ev C false e) fun t => PL.bind (needD t) fun d => fun s => match a with
  | .d (.ref n) => match s.hp[n]? with
    | some (.lst xs) => if xs.length < big then .ok .nx ⟨s.sl, s.hp.set n (.lst (xs ++ [d]))⟩ else .bad
    | _ => .bad
  | _ => .bad := rfl
theorem st_expr_ {e : E} : PL.St.ex C (.expr e) = PL.bind (E.ev C false e) fun _ => PL.ret .nx := rfl
theorem st_if_ {c : E} {a b : List PL.St} : PL.St.ex C (.if_ c a b) = PL.bind (test C c) fun t => if t then Sts.ex C a else Sts.ex C b := rfl
theorem st_while_ {c : E} {b : List PL.St} : PL.St.ex C (.while_ c b) = whileM (test C c) (Sts.ex C b) C.fuel := rfl
theorem st_for_ {g : G} {sr : Src} {b : List PL.St} : PL.St.ex C (.for_ g sr b) = PL.bind (Src.ev C false false sr) fun xs => forM (fun x => PL.bind (G.put g (.d x)) fun _ => Sts.ex C b) xs := rfl
theorem st_ret_ {e : E} : PL.St.ex C (.ret e) = PL.bind (E.ev C false e) fun t => PL.ret (.rt t) := rfl
theorem st_raise_ {c : Nat} : PL.St.ex C (.raise c) = fun s => .ex c s.hp := rfl
theorem st_freeze_ {i : Nat} : PL.St.ex C (.freeze i) = fun s => match slot s i with
  | some (.ol xs) => R.ok O.nx (setSl s i (some (.d (.lst xs))))
  | _ => .bad := rfl
theorem sts_nil : Sts.ex C [] = PL.ret .nx := rfl
theorem sts_cons {a : PL.St} {r : List PL.St} : Sts.ex C (a :: r) = PL.bind (PL.St.ex C a) fun o => match o with
  | .nx => Sts.ex C r
  | o => PL.ret o := rfl
end
/-! ### texts as lists of signs; guards -/
def so (l : List Nat) : Str := ⟨l.toArray⟩
theorem so_app (a b : List Nat) : so a ++ so b = so (a ++ b) := by
  show Str.mk (a.toArray ++ b.toArray) = Str.mk (a ++ b).toArray
  simp
theorem so_len (a : List Nat) : (so a).length = a.length := by
  show a.toArray.size = a.length
  simp
theorem so_lit (c : Nat) : (⟨#[c]⟩ : Str) = so [c] := rfl
theorem so_nil : (⟨#[]⟩ : Str) = so [] := rfl
theorem so_inj {a b : List Nat} : so a = so b ↔ a = b := ⟨fun h => by
  have : a.toArray = b.toArray := congrArg Str.cps h
  simpa using this, fun h => by rw [h]⟩
theorem ite_big {α : Type} {n : Nat} {a b : α} (h : n < 100000) : (if n < big then a else b) = a := if_pos (by rw [big_eq]; omega)
theorem ite_bigN {α : Type} {n : Nat} {a b : α} (h : n < 100000) : (if big ≤ n then a else b) = b := if_neg (by rw [big_eq]; omega)
theorem join_go : ∀ (ls : List (List Nat)) (acc : List Nat), (ls.map so).foldl (fun acc (p : Str) => acc ++ (#[] : Array Nat) ++ p.cps) acc.toArray = (acc ++ ls.flatten).toArray
  | [], acc => by simp
  | x :: ls, acc => by
    rw [List.map_cons, List.foldl_cons]
    have e : acc.toArray ++ (#[] : Array Nat) ++ (so x).cps = (acc ++ x).toArray := by
      show acc.toArray ++ (#[] : Array Nat) ++ x.toArray = _
      simp
    rw [e, join_go ls (acc ++ x)]
    simp
theorem join_so (ls : List (List Nat)) : PySem.Txt.join (so []) (ls.map so) = so ls.flatten := by
  cases ls with
  | nil => rfl
  | cons x ls =>
    show Str.mk (((ls.map so)).foldl (fun acc (p : Str) => acc ++ (#[] : Array Nat) ++ p.cps) x.toArray) = _
    rw [join_go ls x]
    rfl
theorem turns_mapT {α : Type} {sl : List (Option T)} {f : D → M (Option D)} {F g : α → D} {h : Hs} : ∀ {ts : List α}, (∀ t ∈ ts, ∃ s, f (F t) ⟨sl, h⟩ = .ok (some (g t)) s ∧ s.hp = h) → turns sl f (ts.map F) h = .ok (ts.map g) ⟨sl, h⟩
  | [], _ => rfl
  | x :: xs, k => by
    obtain ⟨s, e1, e2⟩ := k x List.mem_cons_self
    have ih := turns_mapT (ts := xs) fun y hy => k y (List.mem_cons_of_mem _ hy)
    rw [List.map_cons]
    unfold turns
    rw [e1]
    dsimp only
    rw [e2, ih]
    rfl
theorem toStrs_map {α : Type} (g : α → Str) (l : List α) : toStrs (l.map fun x => .str (g x)) = some (l.map g) := by
  induction l with
  | nil => rfl
  | cons x l ih =>
    rw [List.map_cons, List.map_cons]
    unfold toStrs
    rw [ih]
theorem toInts_map {α : Type} (g : α → Int) (l : List α) : toInts (l.map fun x => .int (g x)) = some (l.map g) := by
  induction l with
  | nil => rfl
  | cons x l ih =>
    rw [List.map_cons, List.map_cons]
    unfold toInts
    rw [ih]
end PL
end
section
set_option linter.all false
set_option maxRecDepth 100000
set_option maxHeartbeats 0
namespace K55
open PySem PL
/-- brackets: 0 rows 1 _ 2 inner -/
def c_brackets : Def := ⟨1, 3, [.ret (.prim .join [.cst (.str ⟨#[]⟩), .comp [1, 2] (.of (.var 0)) (.tup [.nm 1, .nm 2]) (.prim .add [.prim .add [.cst (.str ⟨#[40]⟩), .call 0 [.var 2]], .cst (.str ⟨#[41]⟩)])])]⟩
/-- labels_in_order: 0 rows 1 label 2 inner -/
def c_labels_in_order : Def := ⟨1, 3, [.ret (.prim .join [.cst (.str ⟨#[]⟩), .comp [1, 2] (.of (.var 0)) (.tup [.nm 1, .nm 2]) (.prim .add [.var 1, .call 1 [.var 2]])])]⟩
/-- from_codes: 0 signs 1 labels 2 stack 3 names 4 at 5 sign 6 inner -/
def c_from_codes : Def := ⟨2, 7, [.if_ (.prim .ne [.prim .len [.var 0], .prim .mul [.cst (.int 2), .prim .len [.var 1]]]) [.raise 1] [], .asg (.nm 2) (.lst [.hlst []]), .asg (.nm 3) (.lst []), .asg (.nm 4) (.cst (.int 0)), .for_ (.nm 5) (.of (.var 0)) [.if_ (.prim .eq [.var 5, .cst (.str ⟨#[40]⟩)]) [.if_ (.prim .ge [.var 4, .prim .len [.var 1]]) [.raise 1] [], .append 3 (.prim .idx [.var 1, .var 4]), .aug 4 .add (.cst (.int 1)), .append 2 (.hlst [])] [.if_ (.and_ (.prim .eq [.var 5, .cst (.str ⟨#[41]⟩)]) (.prim .gt [.prim .len [.var 2], .cst (.int 1)])) [.asg (.nm 6) (.prim .tuple [.pop 2]), .happend (.prim .idx [.var 2, .prim .neg [.cst (.int 1)]]) (.tup [.pop 3, .var 6])] [.raise 1]]], .if_ (.prim .ne [.prim .len [.var 2], .cst (.int 1)]) [.raise 1] [], .ret (.prim .tuple [.prim .idx [.var 2, .cst (.int 0)]])]⟩
/-- ballots: 0 opened 1 left 2 row 3 table 4 more 5 older 6 fresh 7 depth 8 told -/
def c_ballots : Def := ⟨2, 9, [.asg (.nm 2) (.prim .mul [.lst [.cst (.int 1)], .prim .add [.prim .add [.var 0, .prim .mul [.cst (.int 2), .var 1]], .cst (.int 2)]]), .freeze 2, .asg (.nm 3) (.lst [.var 2]), .for_ (.nm 4) (.range2 (.cst (.int 1)) (.prim .add [.var 1, .cst (.int 1)])) [.asg (.nm 5) (.prim .idx [.var 3, .prim .neg [.cst (.int 1)]]), .asg (.nm 6) (.lst []), .for_ (.nm 7) (.range (.prim .add [.prim .sub [.prim .add [.var 0, .var 1], .var 4], .cst (.int 1)])) [.asg (.nm 8) (.prim .add [.prim .idx [.var 5, .prim .add [.var 7, .cst (.int 1)]], .ite (.prim .gt [.var 7, .cst (.int 0)]) (.prim .idx [.var 6, .prim .sub [.var 7, .cst (.int 1)]]) (.cst (.int 0))]), .append 6 (.var 8)], .append 3 (.prim .add [.var 6, .prim .mul [.lst [.cst (.int 0)], .prim .sub [.prim .len [.var 2], .prim .len [.var 6]]]])], .ret (.prim .idx [.prim .idx [.var 3, .var 1], .var 0])]⟩
/-- shape_number: 0 signs 1 total 2 opened 3 used 4 found 5 sign -/
def c_shape_number : Def := ⟨1, 6, [.asg (.nm 1) (.prim .fdiv [.prim .len [.var 0], .cst (.int 2)]), .asg (.tup [.nm 2, .nm 3, .nm 4]) (.tup [.cst (.int 0), .cst (.int 0), .cst (.int 0)]), .for_ (.nm 5) (.of (.var 0)) [.if_ (.and_ (.prim .eq [.var 5, .cst (.str ⟨#[40]⟩)]) (.prim .lt [.var 3, .var 1])) [.aug 2 .add (.cst (.int 1)), .aug 3 .add (.cst (.int 1))] [.if_ (.and_ (.prim .eq [.var 5, .cst (.str ⟨#[41]⟩)]) (.prim .gt [.var 2, .cst (.int 0)])) [.if_ (.prim .lt [.var 3, .var 1]) [.aug 4 .add (.call 3 [.prim .add [.var 2, .cst (.int 1)], .prim .sub [.prim .sub [.var 1, .var 3], .cst (.int 1)]])] [], .aug 2 .sub (.cst (.int 1))] [.raise 1]]], .if_ (.or_ (.prim .gt [.var 2, .cst (.int 0)]) (.prim .ne [.prim .mul [.cst (.int 2), .var 1], .prim .len [.var 0]])) [.raise 1] [], .ret (.var 4)]⟩
/-- shape_of_number: 0 total 1 number 2 signs 3 opened 4 used 5 ways -/
def c_shape_of_number : Def := ⟨2, 6, [.if_ (.not_ (.chain .le .lt (.cst (.int 0)) (.var 1) (.call 3 [.cst (.int 0), .var 0]))) [.raise 1] [], .asg (.nm 2) (.cst (.str ⟨#[]⟩)), .asg (.tup [.nm 3, .nm 4]) (.tup [.cst (.int 0), .cst (.int 0)]), .while_ (.prim .lt [.prim .len [.var 2], .prim .mul [.cst (.int 2), .var 0]]) [.asg (.nm 5) (.ite (.prim .lt [.var 4, .var 0]) (.call 3 [.prim .add [.var 3, .cst (.int 1)], .prim .sub [.prim .sub [.var 0, .var 4], .cst (.int 1)]]) (.cst (.int 0))), .if_ (.prim .lt [.var 1, .var 5]) [.aug 2 .add (.cst (.str ⟨#[40]⟩)), .aug 3 .add (.cst (.int 1)), .aug 4 .add (.cst (.int 1))] [.aug 1 .sub (.var 5), .aug 2 .add (.cst (.str ⟨#[41]⟩)), .aug 3 .sub (.cst (.int 1))]], .ret (.var 2)]⟩
/-- _law_tape: 0 script 1 cells 2 cell 3 seed -/
def c_law_tape : Def := ⟨1, 4, [.asg (.nm 1) (.comp [2] (.of (.var 0)) (.nm 2) (.prim .abs [.prim .int_ [.var 2]])), .freeze 1, .asg (.nm 3) (.cst (.int 7)), .for_ (.nm 2) (.of (.var 1)) [.asg (.nm 3) (.prim .mod [.prim .int_ [.prim .add [.prim .mul [.var 3, .cst (.int 31)], .var 2]], .cst (.int 2147483647)])], .ret (.hdict [⟨#[99, 101, 108, 108, 115]⟩, ⟨#[97, 116]⟩, ⟨#[108, 101, 102, 116]⟩, ⟨#[115, 101, 101, 100]⟩, ⟨#[115, 97, 108, 116]⟩] [.var 1, .cst (.int 0), .cst (.int 0), .var 3, .cst (.int 0)])]⟩
/-- _law_take: 0 tape 1 many 2 drawn 3 mixed -/
def c_law_take : Def := ⟨2, 4, [.if_ (.and_ (.prim .eq [.prim .idx [.var 0, .cst (.str ⟨#[108, 101, 102, 116]⟩)], .cst (.int 0)]) (.prim .lt [.prim .idx [.var 0, .cst (.str ⟨#[97, 116]⟩)], .prim .len [.prim .idx [.var 0, .cst (.str ⟨#[99, 101, 108, 108, 115]⟩)]]])) [.hput (.var 0) (.cst (.str ⟨#[108, 101, 102, 116]⟩)) (.prim .idx [.prim .idx [.var 0, .cst (.str ⟨#[99, 101, 108, 108, 115]⟩)], .prim .idx [.var 0, .cst (.str ⟨#[97, 116]⟩)]]), .hput (.var 0) (.cst (.str ⟨#[97, 116]⟩)) (.prim .add [.prim .idx [.var 0, .cst (.str ⟨#[97, 116]⟩)], .cst (.int 1)])] [], .if_ (.prim .gt [.prim .idx [.var 0, .cst (.str ⟨#[108, 101, 102, 116]⟩)], .cst (.int 0)]) [.asg (.nm 2) (.prim .mod [.prim .int_ [.prim .idx [.var 0, .cst (.str ⟨#[108, 101, 102, 116]⟩)]], .var 1]), .hput (.var 0) (.cst (.str ⟨#[108, 101, 102, 116]⟩)) (.prim .fdiv [.prim .idx [.var 0, .cst (.str ⟨#[108, 101, 102, 116]⟩)], .var 1]), .ret (.var 2)] [], .hput (.var 0) (.cst (.str ⟨#[115, 97, 108, 116]⟩)) (.prim .add [.prim .idx [.var 0, .cst (.str ⟨#[115, 97, 108, 116]⟩)], .cst (.int 1)]), .asg (.nm 3) (.prim .mod [.prim .int_ [.prim .add [.prim .mul [.prim .idx [.var 0, .cst (.str ⟨#[115, 101, 101, 100]⟩)], .cst (.int 48271)], .prim .mul [.prim .idx [.var 0, .cst (.str ⟨#[115, 97, 108, 116]⟩)], .cst (.int 69621)]]], .cst (.int 2147483647)]), .asg (.nm 3) (.prim .mod [.prim .int_ [.prim .add [.prim .add [.prim .mul [.var 3, .var 3], .prim .mul [.prim .idx [.var 0, .cst (.str ⟨#[115, 97, 108, 116]⟩)], .cst (.int 40692)]], .cst (.int 12345)]], .cst (.int 2147483399)]), .ret (.prim .mod [.prim .int_ [.var 3], .var 1])]⟩
/-- _law_rows: 0 tape 1 most 2 deep 3 rows 4 inner -/
def c_law_rows : Def := ⟨3, 5, [.asg (.nm 3) (.lst []), .while_ (.and_ (.prim .lt [.prim .len [.var 3], .cst (.int 3)]) (.and_ (.prim .gt [.var 1, .cst (.int 0)]) (.prim .gt [.call 7 [.var 0, .cst (.int 4)], .cst (.int 0)]))) [.asg (.nm 4) (.ite (.prim .gt [.var 2, .cst (.int 0)]) (.call 8 [.var 0, .prim .sub [.var 1, .cst (.int 1)], .prim .sub [.var 2, .cst (.int 1)]]) (.tup [])), .append 3 (.tup [.prim .idx [.lst [.cst (.str ⟨#[97]⟩), .cst (.str ⟨#[98]⟩), .cst (.str ⟨#[99]⟩)], .call 7 [.var 0, .cst (.int 3)]], .var 4]), .asg (.nm 1) (.prim .sub [.prim .sub [.var 1, .cst (.int 1)], .call 9 [.var 4]])], .ret (.prim .tuple [.var 3])]⟩
/-- _law_size: 0 rows 1 label 2 inner -/
def c_law_size : Def := ⟨1, 3, [.ret (.prim .sum [.comp [1, 2] (.of (.var 0)) (.tup [.nm 1, .nm 2]) (.prim .add [.cst (.int 1), .call 9 [.var 2]])])]⟩
/-- _law_signs: 0 rows 1 label 2 inner -/
def c_law_signs : Def := ⟨1, 3, [.ret (.prim .join [.cst (.str ⟨#[]⟩), .comp [1, 2] (.of (.var 0)) (.tup [.nm 1, .nm 2]) (.prim .add [.prim .add [.cst (.str ⟨#[40]⟩), .call 10 [.var 2]], .cst (.str ⟨#[41]⟩)])])]⟩
/-- _law_labels: 0 rows 1 label 2 inner -/
def c_law_labels : Def := ⟨1, 3, [.ret (.prim .join [.cst (.str ⟨#[]⟩), .comp [1, 2] (.of (.var 0)) (.tup [.nm 1, .nm 2]) (.prim .add [.var 1, .call 11 [.var 2]])])]⟩
/-- _law_all: 0 opened 1 left 2 found 3 rest -/
def c_law_all : Def := ⟨2, 4, [.if_ (.and_ (.prim .eq [.var 0, .cst (.int 0)]) (.prim .eq [.var 1, .cst (.int 0)])) [.ret (.lst [.cst (.str ⟨#[]⟩)])] [], .asg (.nm 2) (.lst []), .if_ (.prim .gt [.var 1, .cst (.int 0)]) [.asg (.nm 2) (.prim .add [.var 2, .comp [3] (.of (.call 12 [.prim .add [.var 0, .cst (.int 1)], .prim .sub [.var 1, .cst (.int 1)]])) (.nm 3) (.prim .add [.cst (.str ⟨#[40]⟩), .var 3])])] [], .if_ (.prim .gt [.var 0, .cst (.int 0)]) [.asg (.nm 2) (.prim .add [.var 2, .comp [3] (.of (.call 12 [.prim .sub [.var 0, .cst (.int 1)], .var 1])) (.nm 3) (.prim .add [.cst (.str ⟨#[41]⟩), .var 3])])] [], .ret (.mv 2)]⟩
/-- law: 0 script 1 tape 2 turn 3 rows 4 at 5 bent 6 told 7 number 8 good 9 signs 10 labels 11 total 12 every 13 k 14 many -/
def c_law : Def := ⟨1, 15, [.asg (.nm 1) (.call 6 [.var 0]), .for_ (.nm 2) (.range (.cst (.int 2))) [.asg (.nm 3) (.call 8 [.var 1, .cst (.int 9), .cst (.int 4)]), .asg (.tup [.nm 9, .nm 10]) (.tup [.call 10 [.var 3], .call 11 [.var 3]]), .if_ (.or_ (.prim .ne [.call 0 [.var 3], .var 9]) (.or_ (.prim .ne [.call 1 [.var 3], .var 10]) (.prim .ne [.call 2 [.var 9, .var 10], .var 3]))) [.ret (.cst (.bl false))] [], .asg (.nm 4) (.call 7 [.var 1, .prim .add [.prim .len [.var 9], .cst (.int 1)]]), .asg (.nm 5) (.prim .idx [.lst [.prim .add [.prim .add [.prim (.sl false true) [.var 9, .var 4], .prim .idx [.cst (.str ⟨#[40, 41]⟩), .call 7 [.var 1, .cst (.int 2)]]], .prim (.sl true false) [.var 9, .prim .add [.var 4, .cst (.int 1)]]], .prim .add [.prim (.sl false true) [.var 9, .var 4], .prim (.sl true false) [.var 9, .prim .add [.var 4, .cst (.int 1)]]], .prim .add [.prim .add [.prim (.sl false true) [.var 9, .var 4], .cst (.str ⟨#[120]⟩)], .prim (.sl true false) [.var 9, .var 4]], .prim .add [.prim .add [.prim (.sl false true) [.var 9, .var 4], .cst (.str ⟨#[120]⟩)], .prim (.sl true false) [.var 9, .prim .add [.var 4, .cst (.int 1)]]]], .call 7 [.var 1, .cst (.int 4)]]), .asg (.nm 6) (.tried 0 (.call 2 [.var 5, .var 10])), .if_ (.or_ (.and_ (.prim .notN [.var 6]) (.or_ (.prim .ne [.call 10 [.var 6], .var 5]) (.prim .ne [.call 11 [.var 6], .var 10]))) (.and_ (.prim .isN [.var 6]) (.prim .eq [.var 5, .var 9]))) [.ret (.cst (.bl false))] [], .asg (.nm 7) (.tried 0 (.call 4 [.var 5])), .asg (.nm 8) (.and_ (.prim .le [.prim .len [.var 5], .cst (.int 10)]) (.and_ (.prim .eq [.prim .mod [.prim .int_ [.prim .len [.var 5]], .cst (.int 2)], .cst (.int 0)]) (.prim .in_ [.var 5, .call 12 [.cst (.int 0), .prim .fdiv [.prim .len [.var 5], .cst (.int 2)]]]))), .if_ (.and_ (.prim .le [.prim .len [.var 5], .cst (.int 10)]) (.prim .ne [.prim .notN [.var 7], .var 8])) [.ret (.cst (.bl false))] [], .if_ (.prim .notN [.tried 0 (.call 2 [.var 9, .prim .add [.var 10, .cst (.str ⟨#[97]⟩)]])]) [.ret (.cst (.bl false))] []], .asg (.nm 11) (.call 7 [.var 1, .cst (.int 7)]), .asg (.nm 12) (.call 12 [.cst (.int 0), .var 11]), .asg (.nm 13) (.call 7 [.var 1, .prim .len [.var 12]]), .if_ (.or_ (.prim .ne [.call 4 [.prim .idx [.var 12, .var 13]], .var 13]) (.or_ (.prim .ne [.call 5 [.var 11, .var 13], .prim .idx [.var 12, .var 13]]) (.prim .ne [.var 12, .prim .sorted [.var 12]]))) [.ret (.cst (.bl false))] [], .asg (.nm 14) (.prim .len [.var 12]), .if_ (.prim .notN [.tried 0 (.call 5 [.var 11, .var 14])]) [.ret (.cst (.bl false))] [], .asg (.nm 7) (.call 7 [.var 1, .prim .pow [.cst (.int 10), .cst (.int 9)]]), .ret (.and_ (.prim .eq [.call 4 [.call 5 [.cst (.int 40), .var 7]], .var 7]) (.prim .isN [.tried 0 (.call 5 [.cst (.int 3), .prim .sub [.cst (.int 0), .cst (.int 1)]])]))]⟩
def prog : Prog := ⟨[c_brackets, c_labels_in_order, c_from_codes, c_ballots, c_shape_number, c_shape_of_number, c_law_tape, c_law_take, c_law_rows, c_law_size, c_law_signs, c_law_labels, c_law_all, c_law], fun k => match k with | 0 => some ⟨1, none, .non⟩ | _ => none, 1000000⟩

def top (i : Nat) : Stmt := PySem.Challenge.pw_grovehouse_k55_codes_of_documents.main.body.getD i (.Pass ⟨0, 0, 0, 0⟩)
def d_brackets : DD := ⟨"brackets", top 6, ["rows", "_", "inner"], ["rows"], []⟩
def d_labels_in_order : DD := ⟨"labels_in_order", top 7, ["rows", "label", "inner"], ["rows"], []⟩
def d_from_codes : DD := ⟨"from_codes", top 8, ["signs", "labels", "stack", "names", "at", "sign", "inner"], ["signs", "labels"], []⟩
def d_ballots : DD := ⟨"ballots", top 9, ["opened", "left", "row", "table", "more", "older", "fresh", "depth", "told"], ["opened", "left"], []⟩
def d_shape_number : DD := ⟨"shape_number", top 10, ["signs", "total", "opened", "used", "found", "sign"], ["signs"], []⟩
def d_shape_of_number : DD := ⟨"shape_of_number", top 11, ["total", "number", "signs", "opened", "used", "ways"], ["total", "number"], []⟩
def d_law_tape : DD := ⟨"_law_tape", top 13, ["script", "cells", "cell", "seed"], ["script"], []⟩
def d_law_take : DD := ⟨"_law_take", top 14, ["tape", "many", "drawn", "mixed"], ["tape", "many"], []⟩
def d_law_rows : DD := ⟨"_law_rows", top 15, ["tape", "most", "deep", "rows", "inner"], ["tape", "most", "deep"], []⟩
def d_law_size : DD := ⟨"_law_size", top 16, ["rows", "label", "inner"], ["rows"], []⟩
def d_law_signs : DD := ⟨"_law_signs", top 17, ["rows", "label", "inner"], ["rows"], []⟩
def d_law_labels : DD := ⟨"_law_labels", top 18, ["rows", "label", "inner"], ["rows"], []⟩
def d_law_all : DD := ⟨"_law_all", top 19, ["opened", "left", "found", "rest"], ["opened", "left"], []⟩
def d_law : DD := ⟨"law", top 21, ["script", "tape", "turn", "rows", "at", "bent", "told", "number", "good", "signs", "labels", "total", "every", "k", "many"], ["script"], [("_law_told", 0)]⟩
def ds : List DD := [d_brackets, d_labels_in_order, d_from_codes, d_ballots, d_shape_number, d_shape_of_number, d_law_tape, d_law_take, d_law_rows, d_law_size, d_law_signs, d_law_labels, d_law_all]
def gc : List (Str × D) := [("OPEN", .str ⟨#[40]⟩), ("CLOSE", .str ⟨#[41]⟩)]
def exc : List (Str × Nat) := [("InvalidText", 1)]
def fn : List (Str × Nat) := fnTab ds 0
theorem k_brackets : defOk gc fn exc d_brackets c_brackets = true := by decide +kernel
theorem k_labels_in_order : defOk gc fn exc d_labels_in_order c_labels_in_order = true := by decide +kernel
theorem k_from_codes : defOk gc fn exc d_from_codes c_from_codes = true := by decide +kernel
theorem k_ballots : defOk gc fn exc d_ballots c_ballots = true := by decide +kernel
theorem k_shape_number : defOk gc fn exc d_shape_number c_shape_number = true := by decide +kernel
theorem k_shape_of_number : defOk gc fn exc d_shape_of_number c_shape_of_number = true := by decide +kernel
theorem k_law_tape : defOk gc fn exc d_law_tape c_law_tape = true := by decide +kernel
theorem k_law_take : defOk gc fn exc d_law_take c_law_take = true := by decide +kernel
theorem k_law_rows : defOk gc fn exc d_law_rows c_law_rows = true := by decide +kernel
theorem k_law_size : defOk gc fn exc d_law_size c_law_size = true := by decide +kernel
theorem k_law_signs : defOk gc fn exc d_law_signs c_law_signs = true := by decide +kernel
theorem k_law_labels : defOk gc fn exc d_law_labels c_law_labels = true := by decide +kernel
theorem k_law : defOk gc fn exc d_law c_law = true := by decide +kernel
theorem k_law_all : defOk gc fn exc d_law_all c_law_all = true := by decide +kernel

end K55
end
section
set_option linter.all false
set_option maxRecDepth 100000
set_option maxHeartbeats 0
namespace K55
open PySem PySem.Spec PyProof.Rows L2 PL
abbrev sTold : Stmt := top 20

def hd (x : Str) (st : Stmt) : He.DefD := ⟨(x, none), x, x, defArgs st, defBody st, defScope st, [], []⟩
def hfn : List He.DefD := [hd "brackets" (top 6), hd "labels_in_order" (top 7), hd "from_codes" (top 8), hd "ballots" (top 9), hd "shape_number" (top 10), hd "shape_of_number" (top 11), hd "_law_tape" (top 13), hd "_law_take" (top 14), hd "_law_rows" (top 15), hd "_law_size" (top 16), hd "_law_signs" (top 17), hd "_law_labels" (top 18), hd "_law_all" (top 19), hd "_law_told" sTold, hd "law" (top 21)]
def hfa : List He.Fa := [.glo "brackets", .glo "labels_in_order", .glo "from_codes", .glo "ballots", .glo "shape_number", .glo "shape_of_number", .glo "_law_tape", .glo "_law_take", .glo "_law_rows", .glo "_law_size", .glo "_law_signs", .glo "_law_labels", .glo "_law_all", .glo "_law_told", .glo "law", .glo "InvalidText", .free "len", .free "abs", .free "int", .free "sum", .free "tuple", .free "sorted", .free "range", .str "OPEN" ⟨#[40]⟩, .str "CLOSE" ⟨#[41]⟩, .exc "InvalidText", .exm "InvalidText" "InvalidText" true]
def lawT : He.Defn := ("law", none)
def noLists (K : PySem.W.Frag) : Bool := K.all fun q => match q.2.cls with | .type c => !decide (c = "list") | _ => true
abbrev R : PySem.W.OpenRow := PySem.W.OpenLaw.row PySem.Challenge.rw_grovehouse_k55_codes_of_documents
abbrev hk : PySem.W.Hook := He.hookX 4 hfa hfn [] [lawT] noLists
def ob (s : PySem.W.SharedT) : He.AlX := He.obsX 4 hfa hfn [] [lawT] noLists (HandSHeadRun.getT s)
theorem ob_eq (s : PySem.W.SharedT) : ob s = hk.obs s.abs := He.obsX_eq (HandSHeadRun.getT_eq s)
def loose : List PySem.Str := ["brackets", "labels_in_order", "from_codes", "ballots", "shape_number", "shape_of_number", "_law_tape", "_law_take", "_law_rows", "_law_size", "_law_signs", "_law_labels", "_law_all", "_law_told", "SayError", "InvalidText", "OPEN", "CLOSE"]
theorem run (w : World) : HandSHeadRun.RunEq R (PySem.W.view R.prog [21]) hk ob 9000 loose w := by
  intro os
  kernel_rfl
end K55
end
section
set_option linter.all false
set_option maxRecDepth 100000
set_option maxHeartbeats 0
namespace K55
open PySem PySem.Spec PyProof.Rows L2 PL
def fx (K : PySem.W.Frag) : Fx := ⟨[((He.cT K lawT).2, ("law" ++ ".<locals>.") ++ "<lambda>")], fun c => if c = 1 then .ref (He.ga K "InvalidText") else .none⟩
theorem lookup_cons {β : Type} {x y : PySem.Str} {a b : β} {l : List (PySem.Str × β)} (h : List.lookup x ((y, a) :: l) = some b) : (x = y ∧ b = a) ∨ List.lookup x l = some b := by
  simp only [List.lookup] at h
  split at h
  · rename_i e
    cases h
    exact .inl ⟨by simpa using e, rfl⟩
  · exact .inr h
section
variable {P : Program} {w : World} {K : PySem.W.Frag} {h : Heap} {mg : PySem.Str → Option Value} (X : K.In h) (G : h.Ns mainGlobals mg) (c : He.SaysX hfa hfn [] [lawT] noLists w h K)
include X G c
theorem nms : Nms (fx K) K mg gc exc := by
  refine ⟨fun x hx => ?_, fun x d hx => ?_, fun x k hx => ?_⟩
  · simp only [List.mem_cons, List.not_mem_nil, or_false] at hx
    rcases hx with rfl | rfl | rfl | rfl | rfl | rfl | rfl
    · exact He.free_ok X G (c.t.d.fact 16 (f := .free "len") rfl)
    · exact He.free_ok X G (c.t.d.fact 17 (f := .free "abs") rfl)
    · exact He.free_ok X G (c.t.d.fact 18 (f := .free "int") rfl)
    · exact He.free_ok X G (c.t.d.fact 19 (f := .free "sum") rfl)
    · exact He.free_ok X G (c.t.d.fact 20 (f := .free "tuple") rfl)
    · exact He.free_ok X G (c.t.d.fact 21 (f := .free "sorted") rfl)
    · exact He.free_ok X G (c.t.d.fact 22 (f := .free "range") rfl)
  · rcases lookup_cons hx with ⟨rfl, rfl⟩ | hx
    · obtain ⟨t, m⟩ := He.str_ok X G (c.t.d.fact 23 (f := .str "OPEN" ⟨#[40]⟩) rfl)
      exact ⟨.str ⟨#[40]⟩, _, m, ⟨t, rfl⟩, fun w => .str _ (by decide +kernel)⟩
    · rcases lookup_cons hx with ⟨rfl, rfl⟩ | hx
      · obtain ⟨t, m⟩ := He.str_ok X G (c.t.d.fact 24 (f := .str "CLOSE" ⟨#[41]⟩) rfl)
        exact ⟨.str ⟨#[41]⟩, _, m, ⟨t, rfl⟩, fun w => .str _ (by decide +kernel)⟩
      · cases hx
  · rcases lookup_cons hx with ⟨rfl, rfl⟩ | hx
    · obtain ⟨e1, e2, e3, e4⟩ := He.exc_ok (c.t.d.fact 25 (f := .exc "InvalidText") rfl)
      exact ⟨_, _, _, _, _, PySem.F.excBase_ValueError, e1, He.glo_ok X G (c.t.d.fact 15 (f := .glo "InvalidText") rfl), e2, e3, e4, rfl⟩
    · cases hx
theorem facts : ∀ (i : Nat) (d : DD), ds[i]? = some d → ∃ f fd, FnP K d.x d.st f fd ∧ mg d.x = some (.ref f) ∧ Binds K fd d.ps []
  | 0, d, e => by
    cases e
    obtain ⟨fd, Fd⟩ := c.t.d.def_ 0 (d := hd "brackets" (top 6)) rfl
    exact ⟨_, fd, Fd, He.glo_ok X G (c.t.d.fact 0 (f := .glo "brackets") rfl), FunD.bindsN Fd fun _ _ _ _ _ _ us hl => match us, hl with | [_], _ => rfl⟩
  | 1, d, e => by
    cases e
    obtain ⟨fd, Fd⟩ := c.t.d.def_ 1 (d := hd "labels_in_order" (top 7)) rfl
    exact ⟨_, fd, Fd, He.glo_ok X G (c.t.d.fact 1 (f := .glo "labels_in_order") rfl), FunD.bindsN Fd fun _ _ _ _ _ _ us hl => match us, hl with | [_], _ => rfl⟩
  | 2, d, e => by
    cases e
    obtain ⟨fd, Fd⟩ := c.t.d.def_ 2 (d := hd "from_codes" (top 8)) rfl
    exact ⟨_, fd, Fd, He.glo_ok X G (c.t.d.fact 2 (f := .glo "from_codes") rfl), FunD.bindsN Fd fun _ _ _ _ _ _ us hl => match us, hl with | [_, _], _ => rfl⟩
  | 3, d, e => by
    cases e
    obtain ⟨fd, Fd⟩ := c.t.d.def_ 3 (d := hd "ballots" (top 9)) rfl
    exact ⟨_, fd, Fd, He.glo_ok X G (c.t.d.fact 3 (f := .glo "ballots") rfl), FunD.bindsN Fd fun _ _ _ _ _ _ us hl => match us, hl with | [_, _], _ => rfl⟩
  | 4, d, e => by
    cases e
    obtain ⟨fd, Fd⟩ := c.t.d.def_ 4 (d := hd "shape_number" (top 10)) rfl
    exact ⟨_, fd, Fd, He.glo_ok X G (c.t.d.fact 4 (f := .glo "shape_number") rfl), FunD.bindsN Fd fun _ _ _ _ _ _ us hl => match us, hl with | [_], _ => rfl⟩
  | 5, d, e => by
    cases e
    obtain ⟨fd, Fd⟩ := c.t.d.def_ 5 (d := hd "shape_of_number" (top 11)) rfl
    exact ⟨_, fd, Fd, He.glo_ok X G (c.t.d.fact 5 (f := .glo "shape_of_number") rfl), FunD.bindsN Fd fun _ _ _ _ _ _ us hl => match us, hl with | [_, _], _ => rfl⟩
  | 6, d, e => by
    cases e
    obtain ⟨fd, Fd⟩ := c.t.d.def_ 6 (d := hd "_law_tape" (top 13)) rfl
    exact ⟨_, fd, Fd, He.glo_ok X G (c.t.d.fact 6 (f := .glo "_law_tape") rfl), FunD.bindsN Fd fun _ _ _ _ _ _ us hl => match us, hl with | [_], _ => rfl⟩
  | 7, d, e => by
    cases e
    obtain ⟨fd, Fd⟩ := c.t.d.def_ 7 (d := hd "_law_take" (top 14)) rfl
    exact ⟨_, fd, Fd, He.glo_ok X G (c.t.d.fact 7 (f := .glo "_law_take") rfl), FunD.bindsN Fd fun _ _ _ _ _ _ us hl => match us, hl with | [_, _], _ => rfl⟩
  | 8, d, e => by
    cases e
    obtain ⟨fd, Fd⟩ := c.t.d.def_ 8 (d := hd "_law_rows" (top 15)) rfl
    exact ⟨_, fd, Fd, He.glo_ok X G (c.t.d.fact 8 (f := .glo "_law_rows") rfl), FunD.bindsN Fd fun _ _ _ _ _ _ us hl => match us, hl with | [_, _, _], _ => rfl⟩
  | 9, d, e => by
    cases e
    obtain ⟨fd, Fd⟩ := c.t.d.def_ 9 (d := hd "_law_size" (top 16)) rfl
    exact ⟨_, fd, Fd, He.glo_ok X G (c.t.d.fact 9 (f := .glo "_law_size") rfl), FunD.bindsN Fd fun _ _ _ _ _ _ us hl => match us, hl with | [_], _ => rfl⟩
  | 10, d, e => by
    cases e
    obtain ⟨fd, Fd⟩ := c.t.d.def_ 10 (d := hd "_law_signs" (top 17)) rfl
    exact ⟨_, fd, Fd, He.glo_ok X G (c.t.d.fact 10 (f := .glo "_law_signs") rfl), FunD.bindsN Fd fun _ _ _ _ _ _ us hl => match us, hl with | [_], _ => rfl⟩
  | 11, d, e => by
    cases e
    obtain ⟨fd, Fd⟩ := c.t.d.def_ 11 (d := hd "_law_labels" (top 18)) rfl
    exact ⟨_, fd, Fd, He.glo_ok X G (c.t.d.fact 11 (f := .glo "_law_labels") rfl), FunD.bindsN Fd fun _ _ _ _ _ _ us hl => match us, hl with | [_], _ => rfl⟩
  | 12, d, e => by
    cases e
    obtain ⟨fd, Fd⟩ := c.t.d.def_ 12 (d := hd "_law_all" (top 19)) rfl
    exact ⟨_, fd, Fd, He.glo_ok X G (c.t.d.fact 12 (f := .glo "_law_all") rfl), FunD.bindsN Fd fun _ _ _ _ _ _ us hl => match us, hl with | [_, _], _ => rfl⟩
  | i + 13, d, e => by
    have e : ([] : List DD)[i]? = some d := e
    simp at e
theorem fns (base : Heap) (n : Nat) : FnsOk (fx K) P w K mg base fn n (prog.call n) :=
  all_ok (nms X G c) (fun x i e => by
    obtain ⟨j, d, e1, e2, e3⟩ := fnTab_ok ds 0 x i e
    rw [Nat.zero_add] at e1
    subst e1
    exact ⟨d, e2, e3⟩) (defsOk_ok (by
      show defsOk gc fn exc ds prog.defs = true
      simp only [ds, prog, defsOk, k_brackets, k_labels_in_order, k_from_codes, k_ballots, k_shape_number, k_shape_of_number, k_law_tape, k_law_take, k_law_rows, k_law_size, k_law_signs, k_law_labels, k_law_all]
      rfl)) (facts X G c) n
theorem law_at (n : Nat) (base : Heap) (hb : ∀ p ∈ [He.cT K lawT], LamX.TabB base mg p.1 p.2) {fd : FuncData} (Fd : FnP K "law" (top 21) (He.ga K "law") fd) : FnOk P w K mg base (L2.CX P w) (3 * n + 3) (He.ga K "law") fd ["script"] (spec (fx K) (prog.call (n + 1) 13)) := by
  obtain ⟨fdT, FT⟩ := c.t.d.def_ 13 (d := hd "_law_told" sTold) rfl
  have FL : FnP K d_law.x d_law.st (He.ga K "law") fd := Fd
  have FT : FnP K "_law_told" sTold (He.ga K "_law_told") fdT := FT
  have ST : FnScope ["call"] ["call"] (defScope sTold) := ⟨rfl, rfl, rfl, by decide +kernel, rfl, by decide +kernel, by decide +kernel⟩
  refine law_fn (d := d_law) (gc := gc) (fn := fn) (exc := exc) FL rfl (nms X G c) (fns X G c base n) (m := 13) rfl k_law fun oc od osl cdv lk e hcd A outer s H E hr => ?_
  obtain ⟨ca, rfl⟩ := He.codeIn_ref hcd
  have ec : He.codeOf K lawT = ca := He.codeOf_eq lk e
  have tb := hb _ List.mem_cons_self
  have e1 : (He.cT K lawT).1 = ca := ec
  rw [e1] at tb
  exact lam_def (xt := "_law_told") (a := "call") (ex := "InvalidText") (sT := sTold) (Ng := ["call"]) (c0 := 1) (CS := He.ga K "InvalidText") (nms X G c) (fns X G c base n) (by decide +kernel) FT (He.glo_ok X G (c.t.d.fact 13 (f := .glo "_law_told") rfl))
    (FunD.bindsN FT fun _ _ _ _ _ _ us hl => match us, hl with | [_], _ => rfl) ST rfl (.inl (by decide +kernel)) rfl (by decide +kernel) (He.glo_ok X G (c.t.d.fact 15 (f := .glo "InvalidText") rfl)) (by decide)
    (He.exm_ok (c.t.d.fact 26 (f := .exm "InvalidText" "InvalidText" true) rfl)) (by decide) (by decide) rfl rfl rfl tb rfl (fun _ => rfl) hr
end
theorem noList {K : PySem.W.Frag} (h : noLists K = true) {a : Addr} {o : Obj} (e : K.lookup a = some o) : o.cls ≠ .type "list" := fun z => by
  have q := List.all_eq_true.mp h (a, o) (He.lookup_mem e)
  have q : (match o.cls with | .type c => !decide (c = "list") | _ => true) = true := q
  rw [z] at q
  cases q
theorem ints_rv {w : Wd} : ∀ ns : List Int, RVs w (ns.map V.int) (ns.map D.int)
  | [] => .nil
  | n :: ns => .cons (.int n) (ints_rv ns)
/-- the script lies in the heap: the law is asked -/
theorem ask {K : PySem.W.Frag} {k m : Nat} {H : Hp} {a : Addr} {ns : List Int} (hK : noLists K = true) (hT : ∀ p ∈ [He.cT K lawT], H p.2 = some (.tbl #[])) (hS : SqL K H a (ns.map V.int)) (plain : ∃ s, prog.call k m [.scr (ns.map .int)] [] = .ok (.d (.bl true)) s) :
    spec (fx K) (prog.call k m) [.ref a] H (fun v _ => v = .bl true) fun _ _ _ => False := by
  have rd : Rd H a (.lst (ns.map V.int)) := by
    rcases hS with h | ⟨o, its, n, e, ec, _⟩
    · exact h
    · exact absurd ec (noList hK e)
  refine ⟨⟨fun b => if b = a then H a else none, []⟩, [.scr (ns.map .int)], [], ⟨fun b o e => ?_, rfl, fun i t e => by simp at e, fun i j a t u e => by simp at e, ⟨rfl, List.nodup_nil, fun n o e => by simp at e⟩, fun p hp => ?_, fun b ps e => ?_⟩, .cons (.scr ?_ (ints_rv ns)) .nil, ?_⟩
  · have e : (if b = a then H a else none) = some o := e
    split at e
    · rename_i z
      rw [z]
      exact e
    · cases e
  · rw [List.mem_singleton.mp hp]
    exact LamX.TabS.nil (hT _ List.mem_cons_self)
  · have e : (if b = a then H a else none) = some (.tbl ps) := e
    split at e
    · rcases rd with z | ⟨o, z⟩
      · rw [z] at e
        cases e
      · rw [z] at e
        cases e
    · cases e
  · rcases rd with z | ⟨o, z⟩
    · exact .inl ((if_pos rfl).trans z)
    · exact .inr ⟨o, (if_pos rfl).trans z⟩
  · obtain ⟨s, e⟩ := plain
    rw [e]
    intro w' H' v _ val _
    cases val.rt
    rfl
end K55
open PySem PySem.W PySem.Calls PyProof.Rows
theorem K55.holds_of (plain : ∀ ns : List Int, ns.length ≤ 63 → ∃ s, K55.prog.call (60 + 1) 13 [.scr (ns.map .int)] [] = .ok (.d (.bl true)) s) : PySem.Challenge.rw_grovehouse_k55_codes_of_documents.Holds := by
  w_on; o_law
  refine HandSHeadRun.head_any (r := OpenLaw.row PySem.Challenge.rw_grovehouse_k55_codes_of_documents) (q := view (OpenLaw.row PySem.Challenge.rw_grovehouse_k55_codes_of_documents).prog [21]) (H := K55.hk) (ob := K55.ob) (M := 9000) (loose := K55.loose) (d := HandSHeadRun.topDef (OpenLaw.row PySem.Challenge.rw_grovehouse_k55_codes_of_documents).prog 21) (kwd := []) K55.ob_eq
    (by kernel_rfl) (fun s => by kernel_rfl) K55.run (by kernel_rfl) (by kernel_rfl) (by kernel_rfl) (by rfl) (by first | assumption | decide +kernel) (by decide +kernel) ⟨rfl, rfl, rfl, rfl, rfl, by decide +kernel⟩ ?hw ?hc
  case hw => w_witness2
  case hc =>
    refine LamX.walk_ofTsE (l := PySem.Challenge.rw_grovehouse_k55_codes_of_documents) (n := 63) (k := 183) (x := "script") (CX := fun w => L2.CX (PySem.Challenge.rw_grovehouse_k55_codes_of_documents).prog w) rfl (by decide) (by kernel_rfl) ⟨rfl, by decide, by decide⟩ ?F (fun _ _ _ _ _ z => ?_)
    · intro w mg fa h Y G hmg0
      obtain ⟨K, KX, c⟩ := Y
      have hmg : mg ("law" : PySem.Str) = some (.ref fa) := by
        have e : (HandSHeadRun.topDef (OpenLaw.row PySem.Challenge.rw_grovehouse_k55_codes_of_documents).prog 21).name = ("law" : PySem.Str) := by kernel_rfl
        rw [← e]
        exact hmg0
      have efa : fa = He.ga K "law" := by
        have e := hmg.symm.trans (He.glo_ok KX G (c.t.d.fact 14 (f := .glo "law") rfl))
        exact Value.ref.inj (Option.some.inj e)
      subst efa
      refine ⟨K, KX, ?_⟩
      obtain ⟨fd, Fd⟩ := c.t.d.def_ 14 (d := K55.hd "law" (K55.top 21)) rfl
      refine ⟨fd, [He.cT K K55.lawT], PL.spec (K55.fx K) (K55.prog.call (60 + 1) 13), fun p hp => by rw [List.mem_singleton.mp hp]; exact c.empty _ List.mem_cons_self, fun p hp => by rw [List.mem_singleton.mp hp]; exact c.out _ List.mem_cons_self, fun p hp => by rw [List.mem_singleton.mp hp]; exact PySem.W.codeHd_of_K KX (c.hd _ List.mem_cons_self), fun s v => L2.FunD.bindsA (ps := ["script"]) Fd (fun _ _ _ _ _ _ us hl => match us, hl with | [_], _ => rfl) s [v] rfl, fun H a ns hl _ hT hS => K55.ask c.more hT hS (plain ns hl), fun base _ _ hb => ?_⟩
      exact K55.law_at (P := (PySem.Challenge.rw_grovehouse_k55_codes_of_documents).prog) (w := w) KX G c 60 base hb Fd
    · obtain ⟨_, _, _, _, _, _, _, _, _, _, _, _, z⟩ := z
      exact z
end
section
set_option linter.all false
set_option maxRecDepth 100000
set_option maxHeartbeats 4000000
/-! M55a: k55 in plain Lean: documents, brackets, labels. -/
namespace K55
open PySem PL
inductive Tr where
  | mk (l : Nat) (ks : List Tr)
mutual
def trD : Tr → D
  | .mk l ks => .tup [.str ⟨#[l]⟩, .tup (trDs ks)]
def trDs : List Tr → List D
  | [] => []
  | t :: ts => trD t :: trDs ts
end
mutual
def sg : Tr → List Nat
  | .mk _ ks => 40 :: (sgs ks ++ [41])
def sgs : List Tr → List Nat
  | [] => []
  | t :: ts => sg t ++ sgs ts
end
mutual
def lb : Tr → List Nat
  | .mk l ks => l :: lbs ks
def lbs : List Tr → List Nat
  | [] => []
  | t :: ts => lb t ++ lbs ts
end
mutual
def dp : Tr → Nat
  | .mk _ ks => dps ks + 1
def dps : List Tr → Nat
  | [] => 0
  | t :: ts => max (dp t) (dps ts)
end
theorem trDs_map : ∀ ts : List Tr, trDs ts = ts.map trD
  | [] => rfl
  | t :: ts => by
    show trD t :: trDs ts = _
    rw [trDs_map ts]
    rfl
theorem sgs_flat : ∀ ts : List Tr, sgs ts = (ts.map sg).flatten
  | [] => rfl
  | t :: ts => by
    show sg t ++ sgs ts = _
    rw [sgs_flat ts]
    rfl
theorem sg_le {t : Tr} : ∀ {ts : List Tr}, t ∈ ts → (sg t).length ≤ (sgs ts).length ∧ dp t ≤ dps ts
  | u :: ts, h => by
    have e1 : (sgs (u :: ts)).length = (sg u).length + (sgs ts).length := by
      show (sg u ++ sgs ts).length = _
      rw [List.length_append]
    have e2 : dps (u :: ts) = max (dp u) (dps ts) := rfl
    rcases List.mem_cons.mp h with rfl | h
    · rw [e1, e2]
      omega
    · obtain ⟨a, b⟩ := sg_le h
      rw [e1, e2]
      omega
theorem len_le : ∀ ts : List Tr, ts.length ≤ (sgs ts).length
  | [] => Nat.le_refl _
  | .mk l ks :: ts => by
    have := len_le ts
    show ts.length + 1 ≤ (40 :: (sgs ks ++ [41]) ++ sgs ts).length
    simp
    omega
/-- the turns of a comprehension whose body makes g of each item and leaves the heap -/
theorem turns_map {sl : List (Option T)} {f : D → M (Option D)} {g : D → D} {h : Hs} : ∀ {xs : List D}, (∀ x ∈ xs, ∃ s, f x ⟨sl, h⟩ = .ok (some (g x)) s ∧ s.hp = h) → turns sl f xs h = .ok (xs.map g) ⟨sl, h⟩
  | [], _ => rfl
  | x :: xs, k => by
    obtain ⟨s, e1, e2⟩ := k x List.mem_cons_self
    have ih := turns_map (xs := xs) fun y hy => k y (List.mem_cons_of_mem _ hy)
    unfold turns
    rw [e1]
    dsimp only
    rw [e2, ih]
    rfl
theorem toStrs_map {α : Type} (g : α → Str) (l : List α) : toStrs (l.map fun x => .str (g x)) = some (l.map g) := by
  induction l with
  | nil => rfl
  | cons x l ih =>
    rw [List.map_cons, List.map_cons]
    unfold toStrs
    rw [ih]
theorem call_brackets : ∀ (n : Nat) (ts : List Tr) (h : Hs), dps ts < n → (sgs ts).length < 1000 → prog.call n 0 [.tup (trDs ts)] h = .ok (.d (.str (so (sgs ts)))) ⟨[], h⟩
  | 0, ts, h, hn, _ => absurd hn (Nat.not_lt_zero _)
  | n + 1, ts, h, hn, hs => by
    have hl := len_le ts
    show c_brackets.run (prog.ctx n) [.tup (trDs ts)] h = _
    have tu : turns [some (.d (.tup (trDs ts))), none, none] (fun x => PL.bind (G.put (.tup [.nm 1, .nm 2]) (.d x)) fun _ => PL.bind (E.ev (prog.ctx n) true (.prim .add [.prim .add [.cst (.str ⟨#[40]⟩), .call 0 [.var 2]], .cst (.str ⟨#[41]⟩)])) fun t => PL.bind (needD t) fun d => PL.ret (some d)) (ts.map trD) h = .ok (ts.map fun t => .str (so (sg t))) ⟨[some (.d (.tup (trDs ts))), none, none], h⟩ := by
      refine turns_mapT fun t ht => ?_
      obtain ⟨l1, l2⟩ := sg_le ht
      cases t with
      | mk l ks =>
        have e3 : (sg (.mk l ks)).length = (sgs ks).length + 2 := by
          show (40 :: (sgs ks ++ [41])).length = _
          simp
        have e4 : dp (.mk l ks) = dps ks + 1 := rfl
        have ih := call_brackets n ks h (by omega) (by omega)
        simp (disch := first | omega | simp) [PL.ev_var, PL.ev_mv, PL.ev_pop, PL.ev_cst, PL.ev_tup, PL.ev_lst, PL.ev_hlst, PL.ev_hdict, PL.ev_prim, PL.ev_and, PL.ev_or, PL.ev_not, PL.ev_ite, PL.ev_chain, PL.ev_call, PL.evs_nil, PL.evs_cons, PL.avs_nil, PL.avs_cons, PL.src_of, PL.src_range, PL.src_range2, PL.st_asg_, PL.st_swap_, PL.st_aug_, PL.st_append_, PL.st_hput_, PL.st_happend_, PL.st_expr_, PL.st_if_, PL.st_ret_, PL.st_raise_, PL.st_freeze_, PL.sts_nil, PL.sts_cons, PL.avOf, PL.bind, PL.ret, PL.see, PL.lift, PL.fail, PL.slot, PL.setSl, PL.needD, PL.truthAv, PL.truth, PL.test, PL.runP, PL.gets, PL.Av.get, PL.P.run, PL.addT, PL.G.put, PL.G.puts, PL.Prog.ctx, PL.walkAv, PL.walkOf, PL.wipe, PL.Def.start, PL.Def.run, PL.isOl, PL.isLref, PL.so_lit, PL.so_nil, PL.so_app, PL.so_len, PL.ite_big, PL.ite_bigN, trD, ih]
        exact ⟨_, ⟨rfl, rfl⟩, rfl⟩
    rw [← trDs_map] at tu
    have hc : E.ev (prog.ctx n) false (.comp [1, 2] (.of (.var 0)) (.tup [.nm 1, .nm 2]) (.prim .add [.prim .add [.cst (.str ⟨#[40]⟩), .call 0 [.var 2]], .cst (.str ⟨#[41]⟩)])) ⟨[some (.d (.tup (trDs ts))), none, none], h⟩ = .ok (.ol (ts.map fun t => .str (so (sg t)))) ⟨[some (.d (.tup (trDs ts))), none, none], h⟩ :=
by
      refine ev_comp (xs := trDs ts) (s1 := ⟨[some (.d (.tup (trDs ts))), none, none], h⟩) (s2 := ⟨[some (.d (.tup (trDs ts))), none, none], h⟩) rfl (by rw [trDs_map, List.length_map]; omega) ?_
      exact tu
    simp only [PL.so_lit, PL.so_nil, PL.Prog.ctx] at hc
    have hj : ((ts.map fun t => so (sg t)).map fun x : Str => x.length).sum + (ts.map fun t => so (sg t)).length * (so []).length = (sgs ts).length := by
      simp [so_len, sgs_flat, List.length_flatten, Function.comp_def]
    have hg : toStrs (ts.map fun t => D.str (so (sg t))) = some (ts.map fun t => so (sg t)) := toStrs_map _ _
    have hk : joinT h (so []) (.ol (ts.map fun t => D.str (so (sg t)))) = some (.d (.str (so (sgs ts)))) := by
      show (match toStrs (ts.map fun t => D.str (so (sg t))) with
        | some (l : List Str) => if (l.map fun x : Str => x.length).sum + l.length * (so []).length < big then some (T.d (D.str (PySem.Txt.join (so []) l))) else none
        | none => none) = _
      rw [hg]
      dsimp only
      rw [hj, ite_big (by omega), sgs_flat]
      have e : (ts.map fun t => so (sg t)) = (ts.map sg).map so := by simp
      rw [e, join_so]
    simp (disch := first | omega | simp) [PL.ev_var, PL.ev_mv, PL.ev_pop, PL.ev_cst, PL.ev_tup, PL.ev_lst, PL.ev_hlst, PL.ev_hdict, PL.ev_prim, PL.ev_and, PL.ev_or, PL.ev_not, PL.ev_ite, PL.ev_chain, PL.ev_call, PL.evs_nil, PL.evs_cons, PL.avs_nil, PL.avs_cons, PL.src_of, PL.src_range, PL.src_range2, PL.st_asg_, PL.st_swap_, PL.st_aug_, PL.st_append_, PL.st_hput_, PL.st_happend_, PL.st_expr_, PL.st_if_, PL.st_ret_, PL.st_raise_, PL.st_freeze_, PL.sts_nil, PL.sts_cons, PL.avOf, PL.bind, PL.ret, PL.see, PL.lift, PL.fail, PL.slot, PL.setSl, PL.needD, PL.truthAv, PL.truth, PL.test, PL.runP, PL.gets, PL.Av.get, PL.P.run, PL.addT, PL.G.put, PL.G.puts, PL.Prog.ctx, PL.walkAv, PL.walkOf, PL.wipe, PL.Def.start, PL.Def.run, PL.isOl, PL.isLref, PL.so_lit, PL.so_nil, PL.so_app, PL.so_len, PL.ite_big, PL.ite_bigN, c_brackets, hc, hk]
theorem call_law_signs : ∀ (n : Nat) (ts : List Tr) (h : Hs), dps ts < n → (sgs ts).length < 1000 → prog.call n 10 [.tup (trDs ts)] h = .ok (.d (.str (so (sgs ts)))) ⟨[], h⟩
  | 0, ts, h, hn, _ => absurd hn (Nat.not_lt_zero _)
  | n + 1, ts, h, hn, hs => by
    have hl := len_le ts
    show c_law_signs.run (prog.ctx n) [.tup (trDs ts)] h = _
    have tu : turns [some (.d (.tup (trDs ts))), none, none] (fun x => PL.bind (G.put (.tup [.nm 1, .nm 2]) (.d x)) fun _ => PL.bind (E.ev (prog.ctx n) true (.prim .add [.prim .add [.cst (.str ⟨#[40]⟩), .call 10 [.var 2]], .cst (.str ⟨#[41]⟩)])) fun t => PL.bind (needD t) fun d => PL.ret (some d)) (ts.map trD) h = .ok (ts.map fun t => .str (so (sg t))) ⟨[some (.d (.tup (trDs ts))), none, none], h⟩ := by
      refine turns_mapT fun t ht => ?_
      obtain ⟨l1, l2⟩ := sg_le ht
      cases t with
      | mk l ks =>
        have e3 : (sg (.mk l ks)).length = (sgs ks).length + 2 := by
          show (40 :: (sgs ks ++ [41])).length = _
          simp
        have e4 : dp (.mk l ks) = dps ks + 1 := rfl
        have ih := call_law_signs n ks h (by omega) (by omega)
        simp (disch := first | omega | simp) [PL.ev_var, PL.ev_mv, PL.ev_pop, PL.ev_cst, PL.ev_tup, PL.ev_lst, PL.ev_hlst, PL.ev_hdict, PL.ev_prim, PL.ev_and, PL.ev_or, PL.ev_not, PL.ev_ite, PL.ev_chain, PL.ev_call, PL.evs_nil, PL.evs_cons, PL.avs_nil, PL.avs_cons, PL.src_of, PL.src_range, PL.src_range2, PL.st_asg_, PL.st_swap_, PL.st_aug_, PL.st_append_, PL.st_hput_, PL.st_happend_, PL.st_expr_, PL.st_if_, PL.st_ret_, PL.st_raise_, PL.st_freeze_, PL.sts_nil, PL.sts_cons, PL.avOf, PL.bind, PL.ret, PL.see, PL.lift, PL.fail, PL.slot, PL.setSl, PL.needD, PL.truthAv, PL.truth, PL.test, PL.runP, PL.gets, PL.Av.get, PL.P.run, PL.addT, PL.G.put, PL.G.puts, PL.Prog.ctx, PL.walkAv, PL.walkOf, PL.wipe, PL.Def.start, PL.Def.run, PL.isOl, PL.isLref, PL.so_lit, PL.so_nil, PL.so_app, PL.so_len, PL.ite_big, PL.ite_bigN, trD, ih]
        exact ⟨_, ⟨rfl, rfl⟩, rfl⟩
    rw [← trDs_map] at tu
    have hc : E.ev (prog.ctx n) false (.comp [1, 2] (.of (.var 0)) (.tup [.nm 1, .nm 2]) (.prim .add [.prim .add [.cst (.str ⟨#[40]⟩), .call 10 [.var 2]], .cst (.str ⟨#[41]⟩)])) ⟨[some (.d (.tup (trDs ts))), none, none], h⟩ = .ok (.ol (ts.map fun t => .str (so (sg t)))) ⟨[some (.d (.tup (trDs ts))), none, none], h⟩ :=
by
      refine ev_comp (xs := trDs ts) (s1 := ⟨[some (.d (.tup (trDs ts))), none, none], h⟩) (s2 := ⟨[some (.d (.tup (trDs ts))), none, none], h⟩) rfl (by rw [trDs_map, List.length_map]; omega) ?_
      exact tu
    simp only [PL.so_lit, PL.so_nil, PL.Prog.ctx] at hc
    have hj : ((ts.map fun t => so (sg t)).map fun x : Str => x.length).sum + (ts.map fun t => so (sg t)).length * (so []).length = (sgs ts).length := by
      simp [so_len, sgs_flat, List.length_flatten, Function.comp_def]
    have hg : toStrs (ts.map fun t => D.str (so (sg t))) = some (ts.map fun t => so (sg t)) := toStrs_map _ _
    have hk : joinT h (so []) (.ol (ts.map fun t => D.str (so (sg t)))) = some (.d (.str (so (sgs ts)))) := by
      show (match toStrs (ts.map fun t => D.str (so (sg t))) with
        | some (l : List Str) => if (l.map fun x : Str => x.length).sum + l.length * (so []).length < big then some (T.d (D.str (PySem.Txt.join (so []) l))) else none
        | none => none) = _
      rw [hg]
      dsimp only
      rw [hj, ite_big (by omega), sgs_flat]
      have e : (ts.map fun t => so (sg t)) = (ts.map sg).map so := by simp
      rw [e, join_so]
    simp (disch := first | omega | simp) [PL.ev_var, PL.ev_mv, PL.ev_pop, PL.ev_cst, PL.ev_tup, PL.ev_lst, PL.ev_hlst, PL.ev_hdict, PL.ev_prim, PL.ev_and, PL.ev_or, PL.ev_not, PL.ev_ite, PL.ev_chain, PL.ev_call, PL.evs_nil, PL.evs_cons, PL.avs_nil, PL.avs_cons, PL.src_of, PL.src_range, PL.src_range2, PL.st_asg_, PL.st_swap_, PL.st_aug_, PL.st_append_, PL.st_hput_, PL.st_happend_, PL.st_expr_, PL.st_if_, PL.st_ret_, PL.st_raise_, PL.st_freeze_, PL.sts_nil, PL.sts_cons, PL.avOf, PL.bind, PL.ret, PL.see, PL.lift, PL.fail, PL.slot, PL.setSl, PL.needD, PL.truthAv, PL.truth, PL.test, PL.runP, PL.gets, PL.Av.get, PL.P.run, PL.addT, PL.G.put, PL.G.puts, PL.Prog.ctx, PL.walkAv, PL.walkOf, PL.wipe, PL.Def.start, PL.Def.run, PL.isOl, PL.isLref, PL.so_lit, PL.so_nil, PL.so_app, PL.so_len, PL.ite_big, PL.ite_bigN, c_law_signs, hc, hk]
theorem lbs_flat : ∀ ts : List Tr, lbs ts = (ts.map lb).flatten
  | [] => rfl
  | t :: ts => by
    show lb t ++ lbs ts = _
    rw [lbs_flat ts]
    rfl
mutual
theorem lb_len1 : ∀ t : Tr, (sg t).length = 2 * (lb t).length
  | .mk l ks => by
    have := lb_len ks
    show (40 :: (sgs ks ++ [41])).length = 2 * (l :: lbs ks).length
    simp
    omega
theorem lb_len : ∀ ts : List Tr, (sgs ts).length = 2 * (lbs ts).length
  | [] => rfl
  | t :: ts => by
    have h1 := lb_len1 t
    have h2 := lb_len ts
    show (sg t ++ sgs ts).length = 2 * (lb t ++ lbs ts).length
    simp
    omega
end
theorem call_labels : ∀ (n : Nat) (ts : List Tr) (h : Hs), dps ts < n → (sgs ts).length < 1000 → prog.call n 1 [.tup (trDs ts)] h = .ok (.d (.str (so (lbs ts)))) ⟨[], h⟩
  | 0, ts, h, hn, _ => absurd hn (Nat.not_lt_zero _)
  | n + 1, ts, h, hn, hs => by
    have hl := len_le ts
    have hll := lb_len ts
    show c_labels_in_order.run (prog.ctx n) [.tup (trDs ts)] h = _
    have tu : turns [some (.d (.tup (trDs ts))), none, none] (fun x => PL.bind (G.put (.tup [.nm 1, .nm 2]) (.d x)) fun _ => PL.bind (E.ev (prog.ctx n) true (.prim .add [.var 1, .call 1 [.var 2]])) fun t => PL.bind (needD t) fun d => PL.ret (some d)) (ts.map trD) h = .ok (ts.map fun t => .str (so (lb t))) ⟨[some (.d (.tup (trDs ts))), none, none], h⟩ := by
      refine turns_mapT fun t ht => ?_
      obtain ⟨l1, l2⟩ := sg_le ht
      cases t with
      | mk l ks =>
        have e3 : (sg (.mk l ks)).length = (sgs ks).length + 2 := by
          show (40 :: (sgs ks ++ [41])).length = _
          simp
        have e4 : dp (.mk l ks) = dps ks + 1 := rfl
        have ih := call_labels n ks h (by omega) (by omega)
        have h5 := lb_len ks
        simp (disch := first | omega | simp) [PL.ev_var, PL.ev_mv, PL.ev_pop, PL.ev_cst, PL.ev_tup, PL.ev_lst, PL.ev_hlst, PL.ev_hdict, PL.ev_prim, PL.ev_and, PL.ev_or, PL.ev_not, PL.ev_ite, PL.ev_chain, PL.ev_call, PL.evs_nil, PL.evs_cons, PL.avs_nil, PL.avs_cons, PL.src_of, PL.src_range, PL.src_range2, PL.st_asg_, PL.st_swap_, PL.st_aug_, PL.st_append_, PL.st_hput_, PL.st_happend_, PL.st_expr_, PL.st_if_, PL.st_ret_, PL.st_raise_, PL.st_freeze_, PL.sts_nil, PL.sts_cons, PL.avOf, PL.bind, PL.ret, PL.see, PL.lift, PL.fail, PL.slot, PL.setSl, PL.needD, PL.truthAv, PL.truth, PL.test, PL.runP, PL.gets, PL.Av.get, PL.P.run, PL.addT, PL.G.put, PL.G.puts, PL.Prog.ctx, PL.walkAv, PL.walkOf, PL.wipe, PL.Def.start, PL.Def.run, PL.isOl, PL.isLref, PL.so_lit, PL.so_nil, PL.so_app, PL.so_len, PL.ite_big, PL.ite_bigN, trD, ih]
        exact ⟨_, ⟨rfl, rfl⟩, rfl⟩
    rw [← trDs_map] at tu
    have hc : E.ev (prog.ctx n) false (.comp [1, 2] (.of (.var 0)) (.tup [.nm 1, .nm 2]) (.prim .add [.var 1, .call 1 [.var 2]])) ⟨[some (.d (.tup (trDs ts))), none, none], h⟩ = .ok (.ol (ts.map fun t => .str (so (lb t)))) ⟨[some (.d (.tup (trDs ts))), none, none], h⟩ :=
by
      refine ev_comp (xs := trDs ts) (s1 := ⟨[some (.d (.tup (trDs ts))), none, none], h⟩) (s2 := ⟨[some (.d (.tup (trDs ts))), none, none], h⟩) rfl (by rw [trDs_map, List.length_map]; omega) ?_
      exact tu
    simp only [PL.so_lit, PL.so_nil, PL.Prog.ctx] at hc
    have hj : ((ts.map fun t => so (lb t)).map fun x : Str => x.length).sum + (ts.map fun t => so (lb t)).length * (so []).length = (lbs ts).length := by
      simp [so_len, lbs_flat, List.length_flatten, Function.comp_def]
    have hg : toStrs (ts.map fun t => D.str (so (lb t))) = some (ts.map fun t => so (lb t)) := toStrs_map _ _
    have hk : joinT h (so []) (.ol (ts.map fun t => D.str (so (lb t)))) = some (.d (.str (so (lbs ts)))) := by
      show (match toStrs (ts.map fun t => D.str (so (lb t))) with
        | some (l : List Str) => if (l.map fun x : Str => x.length).sum + l.length * (so []).length < big then some (T.d (D.str (PySem.Txt.join (so []) l))) else none
        | none => none) = _
      rw [hg]
      dsimp only
      rw [hj, ite_big (by omega), lbs_flat]
      have e : (ts.map fun t => so (lb t)) = (ts.map lb).map so := by simp
      rw [e, join_so]
    simp (disch := first | omega | simp) [PL.ev_var, PL.ev_mv, PL.ev_pop, PL.ev_cst, PL.ev_tup, PL.ev_lst, PL.ev_hlst, PL.ev_hdict, PL.ev_prim, PL.ev_and, PL.ev_or, PL.ev_not, PL.ev_ite, PL.ev_chain, PL.ev_call, PL.evs_nil, PL.evs_cons, PL.avs_nil, PL.avs_cons, PL.src_of, PL.src_range, PL.src_range2, PL.st_asg_, PL.st_swap_, PL.st_aug_, PL.st_append_, PL.st_hput_, PL.st_happend_, PL.st_expr_, PL.st_if_, PL.st_ret_, PL.st_raise_, PL.st_freeze_, PL.sts_nil, PL.sts_cons, PL.avOf, PL.bind, PL.ret, PL.see, PL.lift, PL.fail, PL.slot, PL.setSl, PL.needD, PL.truthAv, PL.truth, PL.test, PL.runP, PL.gets, PL.Av.get, PL.P.run, PL.addT, PL.G.put, PL.G.puts, PL.Prog.ctx, PL.walkAv, PL.walkOf, PL.wipe, PL.Def.start, PL.Def.run, PL.isOl, PL.isLref, PL.so_lit, PL.so_nil, PL.so_app, PL.so_len, PL.ite_big, PL.ite_bigN, c_labels_in_order, hc, hk]
theorem call_law_labels : ∀ (n : Nat) (ts : List Tr) (h : Hs), dps ts < n → (sgs ts).length < 1000 → prog.call n 11 [.tup (trDs ts)] h = .ok (.d (.str (so (lbs ts)))) ⟨[], h⟩
  | 0, ts, h, hn, _ => absurd hn (Nat.not_lt_zero _)
  | n + 1, ts, h, hn, hs => by
    have hl := len_le ts
    have hll := lb_len ts
    show c_law_labels.run (prog.ctx n) [.tup (trDs ts)] h = _
    have tu : turns [some (.d (.tup (trDs ts))), none, none] (fun x => PL.bind (G.put (.tup [.nm 1, .nm 2]) (.d x)) fun _ => PL.bind (E.ev (prog.ctx n) true (.prim .add [.var 1, .call 11 [.var 2]])) fun t => PL.bind (needD t) fun d => PL.ret (some d)) (ts.map trD) h = .ok (ts.map fun t => .str (so (lb t))) ⟨[some (.d (.tup (trDs ts))), none, none], h⟩ := by
      refine turns_mapT fun t ht => ?_
      obtain ⟨l1, l2⟩ := sg_le ht
      cases t with
      | mk l ks =>
        have e3 : (sg (.mk l ks)).length = (sgs ks).length + 2 := by
          show (40 :: (sgs ks ++ [41])).length = _
          simp
        have e4 : dp (.mk l ks) = dps ks + 1 := rfl
        have ih := call_law_labels n ks h (by omega) (by omega)
        have h5 := lb_len ks
        simp (disch := first | omega | simp) [PL.ev_var, PL.ev_mv, PL.ev_pop, PL.ev_cst, PL.ev_tup, PL.ev_lst, PL.ev_hlst, PL.ev_hdict, PL.ev_prim, PL.ev_and, PL.ev_or, PL.ev_not, PL.ev_ite, PL.ev_chain, PL.ev_call, PL.evs_nil, PL.evs_cons, PL.avs_nil, PL.avs_cons, PL.src_of, PL.src_range, PL.src_range2, PL.st_asg_, PL.st_swap_, PL.st_aug_, PL.st_append_, PL.st_hput_, PL.st_happend_, PL.st_expr_, PL.st_if_, PL.st_ret_, PL.st_raise_, PL.st_freeze_, PL.sts_nil, PL.sts_cons, PL.avOf, PL.bind, PL.ret, PL.see, PL.lift, PL.fail, PL.slot, PL.setSl, PL.needD, PL.truthAv, PL.truth, PL.test, PL.runP, PL.gets, PL.Av.get, PL.P.run, PL.addT, PL.G.put, PL.G.puts, PL.Prog.ctx, PL.walkAv, PL.walkOf, PL.wipe, PL.Def.start, PL.Def.run, PL.isOl, PL.isLref, PL.so_lit, PL.so_nil, PL.so_app, PL.so_len, PL.ite_big, PL.ite_bigN, trD, ih]
        exact ⟨_, ⟨rfl, rfl⟩, rfl⟩
    rw [← trDs_map] at tu
    have hc : E.ev (prog.ctx n) false (.comp [1, 2] (.of (.var 0)) (.tup [.nm 1, .nm 2]) (.prim .add [.var 1, .call 11 [.var 2]])) ⟨[some (.d (.tup (trDs ts))), none, none], h⟩ = .ok (.ol (ts.map fun t => .str (so (lb t)))) ⟨[some (.d (.tup (trDs ts))), none, none], h⟩ :=
by
      refine ev_comp (xs := trDs ts) (s1 := ⟨[some (.d (.tup (trDs ts))), none, none], h⟩) (s2 := ⟨[some (.d (.tup (trDs ts))), none, none], h⟩) rfl (by rw [trDs_map, List.length_map]; omega) ?_
      exact tu
    simp only [PL.so_lit, PL.so_nil, PL.Prog.ctx] at hc
    have hj : ((ts.map fun t => so (lb t)).map fun x : Str => x.length).sum + (ts.map fun t => so (lb t)).length * (so []).length = (lbs ts).length := by
      simp [so_len, lbs_flat, List.length_flatten, Function.comp_def]
    have hg : toStrs (ts.map fun t => D.str (so (lb t))) = some (ts.map fun t => so (lb t)) := toStrs_map _ _
    have hk : joinT h (so []) (.ol (ts.map fun t => D.str (so (lb t)))) = some (.d (.str (so (lbs ts)))) := by
      show (match toStrs (ts.map fun t => D.str (so (lb t))) with
        | some (l : List Str) => if (l.map fun x : Str => x.length).sum + l.length * (so []).length < big then some (T.d (D.str (PySem.Txt.join (so []) l))) else none
        | none => none) = _
      rw [hg]
      dsimp only
      rw [hj, ite_big (by omega), lbs_flat]
      have e : (ts.map fun t => so (lb t)) = (ts.map lb).map so := by simp
      rw [e, join_so]
    simp (disch := first | omega | simp) [PL.ev_var, PL.ev_mv, PL.ev_pop, PL.ev_cst, PL.ev_tup, PL.ev_lst, PL.ev_hlst, PL.ev_hdict, PL.ev_prim, PL.ev_and, PL.ev_or, PL.ev_not, PL.ev_ite, PL.ev_chain, PL.ev_call, PL.evs_nil, PL.evs_cons, PL.avs_nil, PL.avs_cons, PL.src_of, PL.src_range, PL.src_range2, PL.st_asg_, PL.st_swap_, PL.st_aug_, PL.st_append_, PL.st_hput_, PL.st_happend_, PL.st_expr_, PL.st_if_, PL.st_ret_, PL.st_raise_, PL.st_freeze_, PL.sts_nil, PL.sts_cons, PL.avOf, PL.bind, PL.ret, PL.see, PL.lift, PL.fail, PL.slot, PL.setSl, PL.needD, PL.truthAv, PL.truth, PL.test, PL.runP, PL.gets, PL.Av.get, PL.P.run, PL.addT, PL.G.put, PL.G.puts, PL.Prog.ctx, PL.walkAv, PL.walkOf, PL.wipe, PL.Def.start, PL.Def.run, PL.isOl, PL.isLref, PL.so_lit, PL.so_nil, PL.so_app, PL.so_len, PL.ite_big, PL.ite_bigN, c_law_labels, hc, hk]
end K55
end
section
set_option linter.all false
set_option maxRecDepth 100000
set_option maxHeartbeats 4000000
/-! M55b: k55 in plain Lean: sizes, the tape. -/
namespace K55
open PySem PL
theorem sum_len : ∀ ts : List Tr, (ts.map fun t => ((lb t).length : Int)).sum = ((lbs ts).length : Int)
  | [] => rfl
  | t :: ts => by
    have ih := sum_len ts
    show ((lb t).length : Int) + (ts.map fun t => ((lb t).length : Int)).sum = ((lb t ++ lbs ts).length : Int)
    rw [ih, List.length_append]
    omega
theorem call_size : ∀ (n : Nat) (ts : List Tr) (h : Hs), dps ts < n → (sgs ts).length < 1000 → prog.call n 9 [.tup (trDs ts)] h = .ok (.d (.int (lbs ts).length)) ⟨[], h⟩
  | 0, ts, h, hn, _ => absurd hn (Nat.not_lt_zero _)
  | n + 1, ts, h, hn, hs => by
    have hl := len_le ts
    show c_law_size.run (prog.ctx n) [.tup (trDs ts)] h = _
    have tu : turns [some (.d (.tup (trDs ts))), none, none] (fun x => PL.bind (G.put (.tup [.nm 1, .nm 2]) (.d x)) fun _ => PL.bind (E.ev (prog.ctx n) true (.prim .add [.cst (.int 1), .call 9 [.var 2]])) fun t => PL.bind (needD t) fun d => PL.ret (some d)) (ts.map trD) h = .ok (ts.map fun t => .int (lb t).length) ⟨[some (.d (.tup (trDs ts))), none, none], h⟩ := by
      refine turns_mapT fun t ht => ?_
      obtain ⟨l1, l2⟩ := sg_le ht
      cases t with
      | mk l ks =>
        have e3 : (sg (.mk l ks)).length = (sgs ks).length + 2 := by
          show (40 :: (sgs ks ++ [41])).length = _
          simp
        have e4 : dp (.mk l ks) = dps ks + 1 := rfl
        have e5 : ((lb (.mk l ks)).length : Int) = 1 + ((lbs ks).length : Int) := by
          show ((l :: lbs ks).length : Int) = _
          rw [List.length_cons]
          omega
        have ih := call_size n ks h (by omega) (by omega)
        simp (disch := first | omega | simp) [PL.ev_var, PL.ev_mv, PL.ev_pop, PL.ev_cst, PL.ev_tup, PL.ev_lst, PL.ev_hlst, PL.ev_hdict, PL.ev_prim, PL.ev_and, PL.ev_or, PL.ev_not, PL.ev_ite, PL.ev_chain, PL.ev_call, PL.evs_nil, PL.evs_cons, PL.avs_nil, PL.avs_cons, PL.src_of, PL.src_range, PL.src_range2, PL.st_asg_, PL.st_swap_, PL.st_aug_, PL.st_append_, PL.st_hput_, PL.st_happend_, PL.st_expr_, PL.st_if_, PL.st_ret_, PL.st_raise_, PL.st_freeze_, PL.sts_nil, PL.sts_cons, PL.avOf, PL.bind, PL.ret, PL.see, PL.lift, PL.fail, PL.slot, PL.setSl, PL.needD, PL.truthAv, PL.truth, PL.test, PL.runP, PL.gets, PL.Av.get, PL.P.run, PL.addT, PL.G.put, PL.G.puts, PL.Prog.ctx, PL.walkAv, PL.walkOf, PL.wipe, PL.Def.start, PL.Def.run, PL.isOl, PL.isLref, PL.so_lit, PL.so_nil, PL.so_app, PL.so_len, PL.ite_big, PL.ite_bigN, trD, ih]
        exact ⟨_, ⟨e5.symm, rfl⟩, rfl⟩
    rw [← trDs_map] at tu
    have hc : E.ev (prog.ctx n) false (.comp [1, 2] (.of (.var 0)) (.tup [.nm 1, .nm 2]) (.prim .add [.cst (.int 1), .call 9 [.var 2]])) ⟨[some (.d (.tup (trDs ts))), none, none], h⟩ = .ok (.ol (ts.map fun t => .int (lb t).length)) ⟨[some (.d (.tup (trDs ts))), none, none], h⟩ := by
      refine ev_comp (xs := trDs ts) (s1 := ⟨[some (.d (.tup (trDs ts))), none, none], h⟩) (s2 := ⟨[some (.d (.tup (trDs ts))), none, none], h⟩) rfl (by rw [trDs_map, List.length_map]; omega) ?_
      exact tu
    simp only [PL.Prog.ctx] at hc
    have hk : sumT h (.ol (ts.map fun t => D.int (lb t).length)) = some (.d (.int (lbs ts).length)) := by
      show (match toInts (ts.map fun t => D.int (lb t).length) with
        | some (l : List Int) => some (T.d (D.int l.sum))
        | none => none) = _
      rw [show toInts (ts.map fun t => D.int (lb t).length) = some (ts.map fun t => ((lb t).length : Int)) from toInts_map _ _]
      dsimp only
      rw [sum_len]
    simp (disch := first | omega | simp) [PL.ev_var, PL.ev_mv, PL.ev_pop, PL.ev_cst, PL.ev_tup, PL.ev_lst, PL.ev_hlst, PL.ev_hdict, PL.ev_prim, PL.ev_and, PL.ev_or, PL.ev_not, PL.ev_ite, PL.ev_chain, PL.ev_call, PL.evs_nil, PL.evs_cons, PL.avs_nil, PL.avs_cons, PL.src_of, PL.src_range, PL.src_range2, PL.st_asg_, PL.st_swap_, PL.st_aug_, PL.st_append_, PL.st_hput_, PL.st_happend_, PL.st_expr_, PL.st_if_, PL.st_ret_, PL.st_raise_, PL.st_freeze_, PL.sts_nil, PL.sts_cons, PL.avOf, PL.bind, PL.ret, PL.see, PL.lift, PL.fail, PL.slot, PL.setSl, PL.needD, PL.truthAv, PL.truth, PL.test, PL.runP, PL.gets, PL.Av.get, PL.P.run, PL.addT, PL.G.put, PL.G.puts, PL.Prog.ctx, PL.walkAv, PL.walkOf, PL.wipe, PL.Def.start, PL.Def.run, PL.isOl, PL.isLref, PL.so_lit, PL.so_nil, PL.so_app, PL.so_len, PL.ite_big, PL.ite_bigN, c_law_size, hc, hk]

/-! ### the tape -/
def tp (cs : List Int) (a l s t : Int) : List (Str × D) := [(⟨#[99, 101, 108, 108, 115]⟩, .lst (cs.map .int)), (⟨#[97, 116]⟩, .int a), (⟨#[108, 101, 102, 116]⟩, .int l), (⟨#[115, 101, 101, 100]⟩, .int s), (⟨#[115, 97, 108, 116]⟩, .int t)]
theorem g_cells {cs : List Int} {a l s t : Int} : kGet (tp cs a l s t) ⟨#[99, 101, 108, 108, 115]⟩ = some (.lst (cs.map .int)) := rfl
theorem g_at {cs : List Int} {a l s t : Int} : kGet (tp cs a l s t) ⟨#[97, 116]⟩ = some (.int a) := rfl
theorem g_left {cs : List Int} {a l s t : Int} : kGet (tp cs a l s t) ⟨#[108, 101, 102, 116]⟩ = some (.int l) := rfl
theorem g_seed {cs : List Int} {a l s t : Int} : kGet (tp cs a l s t) ⟨#[115, 101, 101, 100]⟩ = some (.int s) := rfl
theorem g_salt {cs : List Int} {a l s t : Int} : kGet (tp cs a l s t) ⟨#[115, 97, 108, 116]⟩ = some (.int t) := rfl
theorem p_at {cs : List Int} {a l s t x : Int} : kPut (tp cs a l s t) ⟨#[97, 116]⟩ (.int x) = tp cs x l s t := rfl
theorem p_left {cs : List Int} {a l s t x : Int} : kPut (tp cs a l s t) ⟨#[108, 101, 102, 116]⟩ (.int x) = tp cs a x s t := rfl
theorem p_salt {cs : List Int} {a l s t x : Int} : kPut (tp cs a l s t) ⟨#[115, 97, 108, 116]⟩ (.int x) = tp cs a l s x := rfl
theorem tp_len {cs : List Int} {a l s t : Int} : (tp cs a l s t).length = 5 := rfl
/-- a tape as it should be -/
structure Tp (h : Hs) : Prop where
  ex : ∃ (cs : List Int) (k : Nat) (l s t : Int) (r : Hs), h = .dct (tp cs k l s t) :: r ∧ (∀ c ∈ cs, 0 ≤ c) ∧ cs.length < 1000 ∧ 0 ≤ l
theorem eq_int {i j : Int} : eqT (.d (.int i)) (.d (.int j)) = some (i == j) := rfl
theorem at_cell {cs : List Int} {k : Nat} (hk : k < cs.length) {h : Hs} : idxL h (.d (.lst (cs.map .int))) (k : Int) = some (.d (.int cs[k])) := by
  have e : L2.atI (cs.map D.int) (k : Int) = some (.int cs[k]) := L2.atI_nat (by rw [List.getElem?_map, List.getElem?_eq_getElem hk]; rfl)
  show (match L2.atI (cs.map D.int) (k : Int) with
    | some v => some (T.d v)
    | none => none) = _
  rw [e]
theorem len_cells {cs : List Int} {h : Hs} : lenT h (.d (.lst (cs.map .int))) = some (.d (.int cs.length)) := by
  show some (T.d (D.int (cs.map D.int).length)) = _
  rw [List.length_map]
theorem sm_mod {i m : Int} (hm : 0 < m) (h2 : m < 2 ^ 62) : small (i % m) = true := by
  have h1 := Int.emod_nonneg i (Int.ne_of_gt hm)
  have h3 := Int.emod_lt_of_pos i hm
  unfold small
  simp only [Bool.and_eq_true, decide_eq_true_eq]
  omega
theorem mul_s {i j : Int} {h : Hs} (hj : small j = true) : mulT h (.d (.int i)) (.d (.int j)) = some (.d (.int (i * j))) := by
  unfold mulT
  simp [hj]
theorem mul_1 {i : Int} {h : Hs} : mulT h (.d (.int i)) (.d (.int 48271)) = some (.d (.int (i * 48271))) := mul_s (by decide)
theorem mul_2 {i : Int} {h : Hs} : mulT h (.d (.int i)) (.d (.int 69621)) = some (.d (.int (i * 69621))) := mul_s (by decide)
theorem mul_3 {i : Int} {h : Hs} : mulT h (.d (.int i)) (.d (.int 40692)) = some (.d (.int (i * 40692))) := mul_s (by decide)
theorem mul_4 {i j : Int} {h : Hs} : mulT h (.d (.int i)) (.d (.int (j % 2147483647))) = some (.d (.int (i * (j % 2147483647)))) := mul_s (sm_mod (by decide) (by decide))
def mixd (s t : Int) : Int := (((s * 48271 + t * 69621) % 2147483647) * ((s * 48271 + t * 69621) % 2147483647) + t * 40692 + 12345) % 2147483399
theorem call_take {n : Nat} {m : Int} {h : Hs} (ht : Tp h) (hm : 0 < m) (hm2 : m < 1073741824) : ∃ d h', prog.call (n + 1) 7 [.ref 0, .int m] h = .ok (.d (.int d)) ⟨[], h'⟩ ∧ Tp h' ∧ 0 ≤ d ∧ d < m := by
  obtain ⟨cs, k, l, s, t, r, rfl, hc, hl, h0⟩ := ht.ex
  have key : ∀ i : Int, 0 ≤ i % m ∧ i % m < m := fun i => ⟨Int.emod_nonneg i (Int.ne_of_gt hm), Int.emod_lt_of_pos i hm⟩
  have dr : ∀ (k' : Nat) (l' : Int), 0 < l' → Tp (.dct (tp cs k' (l' / m) s t) :: r) := fun k' l' h' => ⟨cs, k', l' / m, s, t, r, rfl, hc, hl, Int.ediv_nonneg (by omega) (by omega)⟩
  show ∃ d h', c_law_take.run (prog.ctx n) [.ref 0, .int m] (.dct (tp cs k l s t) :: r) = .ok (.d (.int d)) ⟨[], h'⟩ ∧ _
  by_cases hl0 : l = 0
  · subst hl0
    by_cases hk : k < cs.length
    · have hcell := hc cs[k] (List.getElem_mem hk)
      by_cases hz : 0 < cs[k]
      · refine ⟨cs[k] % m, _, ?_, dr (k + 1) cs[k] hz, key _⟩
        simp (disch := first | omega | simp) [PL.ev_var, PL.ev_mv, PL.ev_pop, PL.ev_cst, PL.ev_tup, PL.ev_lst, PL.ev_hlst, PL.ev_hdict, PL.ev_prim, PL.ev_and, PL.ev_or, PL.ev_not, PL.ev_ite, PL.ev_chain, PL.ev_call, PL.evs_nil, PL.evs_cons, PL.avs_nil, PL.avs_cons, PL.src_of, PL.src_range, PL.src_range2, PL.st_asg_, PL.st_swap_, PL.st_aug_, PL.st_append_, PL.st_hput_, PL.st_happend_, PL.st_expr_, PL.st_if_, PL.st_ret_, PL.st_raise_, PL.st_freeze_, PL.sts_nil, PL.sts_cons, PL.avOf, PL.bind, PL.ret, PL.see, PL.lift, PL.fail, PL.slot, PL.setSl, PL.needD, PL.truthAv, PL.truth, PL.test, PL.runP, PL.gets, PL.Av.get, PL.P.run, PL.addT, PL.G.put, PL.G.puts, PL.Prog.ctx, PL.walkAv, PL.walkOf, PL.wipe, PL.Def.start, PL.Def.run, PL.isOl, PL.isLref, PL.so_lit, PL.so_nil, PL.so_app, PL.so_len, PL.ite_big, PL.ite_bigN, c_law_take, idxT, idxK, g_cells, g_at, g_left, g_seed, g_salt, p_at, p_left, p_salt, tp_len, eq_int, at_cell, len_cells, cmpI, blT, opI, hk, hz, hm, hm2]
      · have h0' : cs[k] = 0 := by omega
        refine ⟨mixd s (t + 1) % m, .dct (tp cs (k + 1 : Nat) 0 s (t + 1)) :: r, ?_, ⟨cs, k + 1, 0, s, t + 1, r, rfl, hc, hl, Int.le_refl _⟩, key _⟩
        simp (disch := first | omega | simp) [PL.ev_var, PL.ev_mv, PL.ev_pop, PL.ev_cst, PL.ev_tup, PL.ev_lst, PL.ev_hlst, PL.ev_hdict, PL.ev_prim, PL.ev_and, PL.ev_or, PL.ev_not, PL.ev_ite, PL.ev_chain, PL.ev_call, PL.evs_nil, PL.evs_cons, PL.avs_nil, PL.avs_cons, PL.src_of, PL.src_range, PL.src_range2, PL.st_asg_, PL.st_swap_, PL.st_aug_, PL.st_append_, PL.st_hput_, PL.st_happend_, PL.st_expr_, PL.st_if_, PL.st_ret_, PL.st_raise_, PL.st_freeze_, PL.sts_nil, PL.sts_cons, PL.avOf, PL.bind, PL.ret, PL.see, PL.lift, PL.fail, PL.slot, PL.setSl, PL.needD, PL.truthAv, PL.truth, PL.test, PL.runP, PL.gets, PL.Av.get, PL.P.run, PL.addT, PL.G.put, PL.G.puts, PL.Prog.ctx, PL.walkAv, PL.walkOf, PL.wipe, PL.Def.start, PL.Def.run, PL.isOl, PL.isLref, PL.so_lit, PL.so_nil, PL.so_app, PL.so_len, PL.ite_big, PL.ite_bigN, c_law_take, idxT, idxK, g_cells, g_at, g_left, g_seed, g_salt, p_at, p_left, p_salt, tp_len, eq_int, at_cell, len_cells, cmpI, blT, opI, hk, h0', hm, hm2, mul_1, mul_2, mul_3, mul_4, mixd]
    · refine ⟨mixd s (t + 1) % m, .dct (tp cs k 0 s (t + 1)) :: r, ?_, ⟨cs, k, 0, s, t + 1, r, rfl, hc, hl, Int.le_refl _⟩, key _⟩
      simp (disch := first | omega | simp) [PL.ev_var, PL.ev_mv, PL.ev_pop, PL.ev_cst, PL.ev_tup, PL.ev_lst, PL.ev_hlst, PL.ev_hdict, PL.ev_prim, PL.ev_and, PL.ev_or, PL.ev_not, PL.ev_ite, PL.ev_chain, PL.ev_call, PL.evs_nil, PL.evs_cons, PL.avs_nil, PL.avs_cons, PL.src_of, PL.src_range, PL.src_range2, PL.st_asg_, PL.st_swap_, PL.st_aug_, PL.st_append_, PL.st_hput_, PL.st_happend_, PL.st_expr_, PL.st_if_, PL.st_ret_, PL.st_raise_, PL.st_freeze_, PL.sts_nil, PL.sts_cons, PL.avOf, PL.bind, PL.ret, PL.see, PL.lift, PL.fail, PL.slot, PL.setSl, PL.needD, PL.truthAv, PL.truth, PL.test, PL.runP, PL.gets, PL.Av.get, PL.P.run, PL.addT, PL.G.put, PL.G.puts, PL.Prog.ctx, PL.walkAv, PL.walkOf, PL.wipe, PL.Def.start, PL.Def.run, PL.isOl, PL.isLref, PL.so_lit, PL.so_nil, PL.so_app, PL.so_len, PL.ite_big, PL.ite_bigN, c_law_take, idxT, idxK, g_cells, g_at, g_left, g_seed, g_salt, p_at, p_left, p_salt, tp_len, eq_int, at_cell, len_cells, cmpI, blT, opI, hk, hm, hm2, mul_1, mul_2, mul_3, mul_4, mixd]
  · have hp : 0 < l := by omega
    refine ⟨l % m, _, ?_, dr k l hp, key _⟩
    simp (disch := first | omega | simp) [PL.ev_var, PL.ev_mv, PL.ev_pop, PL.ev_cst, PL.ev_tup, PL.ev_lst, PL.ev_hlst, PL.ev_hdict, PL.ev_prim, PL.ev_and, PL.ev_or, PL.ev_not, PL.ev_ite, PL.ev_chain, PL.ev_call, PL.evs_nil, PL.evs_cons, PL.avs_nil, PL.avs_cons, PL.src_of, PL.src_range, PL.src_range2, PL.st_asg_, PL.st_swap_, PL.st_aug_, PL.st_append_, PL.st_hput_, PL.st_happend_, PL.st_expr_, PL.st_if_, PL.st_ret_, PL.st_raise_, PL.st_freeze_, PL.sts_nil, PL.sts_cons, PL.avOf, PL.bind, PL.ret, PL.see, PL.lift, PL.fail, PL.slot, PL.setSl, PL.needD, PL.truthAv, PL.truth, PL.test, PL.runP, PL.gets, PL.Av.get, PL.P.run, PL.addT, PL.G.put, PL.G.puts, PL.Prog.ctx, PL.walkAv, PL.walkOf, PL.wipe, PL.Def.start, PL.Def.run, PL.isOl, PL.isLref, PL.so_lit, PL.so_nil, PL.so_app, PL.so_len, PL.ite_big, PL.ite_bigN, c_law_take, idxT, idxK, g_cells, g_at, g_left, g_seed, g_salt, p_at, p_left, p_salt, tp_len, eq_int, at_cell, len_cells, cmpI, blT, opI, hl0, hp, hm, hm2]
end K55
end
section
set_option linter.all false
set_option maxRecDepth 100000
/-! N55: rows of brackets, trees: plain Lean. -/
namespace K55
/-- o are open, l pairs are still to be opened: how many rows end it -/
def B : Nat → Nat → Nat
  | _, 0 => 1
  | 0, l + 1 => B 1 l
  | o + 1, l + 1 => B (o + 2) l + B o (l + 1)
termination_by o l => 2 * l + o
def al : Nat → Nat → List (List Nat)
  | 0, 0 => [[]]
  | 0, l + 1 => (al 1 l).map (40 :: ·)
  | o + 1, 0 => (al o 0).map (41 :: ·)
  | o + 1, l + 1 => (al (o + 2) l).map (40 :: ·) ++ (al o (l + 1)).map (41 :: ·)
termination_by o l => 2 * l + o
def un : Nat → Nat → Nat → List Nat
  | 0, 0, _ => []
  | 0, l + 1, n => 40 :: un 1 l n
  | o + 1, 0, n => 41 :: un o 0 n
  | o + 1, l + 1, n => if n < B (o + 2) l then 40 :: un (o + 2) l n else 41 :: un o (l + 1) (n - B (o + 2) l)
termination_by o l => 2 * l + o
/-- what opening now would leave -/
def wy : Nat → Nat → Nat
  | _, 0 => 0
  | o, l + 1 => B (o + 1) l
/-- one sign -/
def fo : Nat → Nat → Nat → List Nat → Option (Nat × Nat × Nat)
  | o, l, f, [] => some (o, l, f)
  | o, l, f, c :: s => if c = 40 ∧ 0 < l then fo (o + 1) (l - 1) f s else if c = 41 ∧ 0 < o then fo (o - 1) l (f + wy o l) s else none
theorem fo_len : ∀ (s : List Nat) (o l f o' l' f' : Nat), fo o l f s = some (o', l', f') → l' ≤ l ∧ o' + s.length + 2 * l' = o + 2 * l
  | [], o, l, f, o', l', f', h => by
    unfold fo at h
    cases h
    simp
  | c :: s, o, l, f, o', l', f', h => by
    unfold fo at h
    split at h
    · have := fo_len s _ _ _ _ _ _ h
      simp only [List.length_cons]
      omega
    · split at h
      · have := fo_len s _ _ _ _ _ _ h
        simp only [List.length_cons]
        omega
      · cases h
theorem B_pos : ∀ o l, 0 < B o l
  | o, 0 => by unfold B; omega
  | 0, l + 1 => by unfold B; exact B_pos 1 l
  | o + 1, l + 1 => by
    unfold B
    have := B_pos (o + 2) l
    omega
termination_by o l => 2 * l + o
theorem B_up : ∀ l o, B o l ≤ B (o + 1) l
  | 0, o => by unfold B; exact Nat.le_refl _
  | l + 1, o => by
    rw [B.eq_3 o l]
    omega
theorem B_dbl (l : Nat) : 2 * B 0 (l + 1) ≤ B 0 (l + 2) := by
  have h1 : B 1 l ≤ B 2 l := B_up l 1
  have h2 : B 0 (l + 1) = B 1 l := B.eq_2 l
  have h3 : B 0 (l + 2) = B 1 (l + 1) := B.eq_2 (l + 1)
  have h4 : B 1 (l + 1) = B 2 l + B 0 (l + 1) := B.eq_3 0 l
  omega
theorem B_pow : ∀ l, 2 ^ l ≤ B 0 (l + 1)
  | 0 => B_pos _ _
  | l + 1 => by
    have h1 := B_dbl l
    have h2 := B_pow l
    have h3 : (2 : Nat) ^ (l + 1) = 2 ^ l * 2 := rfl
    show 2 ^ (l + 1) ≤ B 0 (l + 2)
    omega
theorem B_40 : 1000000000 ≤ B 0 40 := Nat.le_trans (by decide) (B_pow 39)
/-- balanced -/
def bal (o l : Nat) (s : List Nat) : Prop := ∃ f, fo o l 0 s = some (0, 0, f)
theorem fo_add : ∀ (s : List Nat) (o l f g : Nat), fo o l (f + g) s = (fo o l g s).map fun r => (r.1, r.2.1, f + r.2.2)
  | [], o, l, f, g => rfl
  | c :: s, o, l, f, g => by
    unfold fo
    split
    · exact fo_add s _ _ _ _
    · split
      · rw [Nat.add_assoc]
        exact fo_add s _ _ _ _
      · rfl
theorem al_len : ∀ o l, (al o l).length = B o l
  | 0, 0 => by simp [al, B]
  | 0, l + 1 => by simp [al, B, al_len 1 l]
  | o + 1, 0 => by simp [al, B, al_len o 0]
  | o + 1, l + 1 => by simp [al, B, al_len (o + 2) l, al_len o (l + 1)]
termination_by o l => 2 * l + o
theorem al_un : ∀ o l n, n < B o l → (al o l)[n]? = some (un o l n)
  | 0, 0, n, h => by
    have h : n < 1 := by simpa [B] using h
    have : n = 0 := by omega
    subst this
    simp [al, un]
  | 0, l + 1, n, h => by
    rw [B] at h
    rw [al, un, List.getElem?_map, al_un 1 l n h]
    rfl
  | o + 1, 0, n, h => by
    have h : n < 1 := by simpa [B] using h
    have : n < B o 0 := by simpa [B] using h
    rw [al, un, List.getElem?_map, al_un o 0 n this]
    rfl
  | o + 1, l + 1, n, h => by
    rw [B] at h
    rw [al, un]
    have hl := al_len (o + 2) l
    by_cases hn : n < B (o + 2) l
    · rw [if_pos hn, List.getElem?_append_left (by simpa [hl] using hn), List.getElem?_map, al_un (o + 2) l n hn]
      rfl
    · rw [if_neg hn, List.getElem?_append_right (by simp [hl]; omega), List.getElem?_map, List.length_map, hl, al_un o (l + 1) _ (by omega)]
      rfl
termination_by o l => 2 * l + o
theorem un_len : ∀ o l n, (un o l n).length = 2 * l + o
  | 0, 0, n => by simp [un]
  | 0, l + 1, n => by
    rw [un, List.length_cons, un_len 1 l n]
    omega
  | o + 1, 0, n => by
    rw [un, List.length_cons, un_len o 0 n]
    omega
  | o + 1, l + 1, n => by
    rw [un]
    split
    · rw [List.length_cons, un_len (o + 2) l]
      omega
    · rw [List.length_cons, un_len o (l + 1)]
      omega
termination_by o l => 2 * l + o
/-- the rank of the nth is n -/
theorem fo_un : ∀ o l n f, n < B o l → fo o l f (un o l n) = some (0, 0, f + n)
  | 0, 0, n, f, h => by
    have h : n < 1 := by simpa [B] using h
    have : n = 0 := by omega
    subst this
    simp [fo, un]
  | 0, l + 1, n, f, h => by
    rw [B] at h
    rw [un, fo, if_pos ⟨rfl, Nat.succ_pos l⟩]
    exact fo_un 1 l n f h
  | o + 1, 0, n, f, h => by
    have h : n < 1 := by simpa [B] using h
    have : n < B o 0 := by simpa [B] using h
    rw [un, fo, if_neg (by omega), if_pos ⟨rfl, Nat.succ_pos o⟩]
    exact fo_un o 0 n f this
  | o + 1, l + 1, n, f, h => by
    rw [B] at h
    rw [un]
    by_cases hn : n < B (o + 2) l
    · rw [if_pos hn, fo, if_pos ⟨rfl, Nat.succ_pos l⟩]
      exact fo_un (o + 2) l n f hn
    · rw [if_neg hn, fo, if_neg (by omega), if_pos ⟨rfl, Nat.succ_pos o⟩]
      have e := fo_un o (l + 1) (n - B (o + 2) l) (f + wy (o + 1) (l + 1)) (by omega)
      have e2 : wy (o + 1) (l + 1) = B (o + 2) l := rfl
      rw [e2] at e ⊢
      have e3 : f + B (o + 2) l + (n - B (o + 2) l) = f + n := by omega
      rw [e3] at e
      exact e
termination_by o l => 2 * l + o
/-- what is balanced is in the list -/
theorem mem_al : ∀ (s : List Nat) (o l f : Nat) , (∃ g, fo o l f s = some (0, 0, g)) ↔ s ∈ al o l
  | [], 0, 0, f => by simp [fo, al]
  | [], 0, l + 1, f => by simp [fo, al]
  | [], o + 1, 0, f => by simp [fo, al]
  | [], o + 1, l + 1, f => by simp [fo, al]
  | c :: s, 0, 0, f => by simp [fo, al]
  | c :: s, 0, l + 1, f => by
    have ih := mem_al s 1 l f
    by_cases h : c = 40
    · simp [fo, al, h, ih]
    · simp [fo, al, h, ih]
      intro _
      omega
  | c :: s, o + 1, 0, f => by
    have ih := mem_al s o 0 (f + wy (o + 1) 0)
    by_cases h : c = 41
    · simp [fo, al, h, ih]
    · simp [fo, al, h, ih]
      intro _
      omega
  | c :: s, o + 1, l + 1, f => by
    have ih := mem_al s o (l + 1) (f + wy (o + 1) (l + 1))
    have ih2 := mem_al s (o + 2) l f
    by_cases h : c = 40
    · simp [fo, al, h, ih2]
    · by_cases h2 : c = 41
      · simp [fo, al, h2, ih]
      · simp [fo, al, h, h2]
        constructor <;> intro _ <;> omega

theorem sgs_app : ∀ a b : List Tr, sgs (a ++ b) = sgs a ++ sgs b
  | [], b => rfl
  | t :: a, b => by
    show sg t ++ sgs (a ++ b) = sg t ++ sgs a ++ sgs b
    rw [sgs_app a b, List.append_assoc]
theorem lbs_app : ∀ a b : List Tr, lbs (a ++ b) = lbs a ++ lbs b
  | [], b => rfl
  | t :: a, b => by
    show lb t ++ lbs (a ++ b) = lb t ++ lbs a ++ lbs b
    rw [lbs_app a b, List.append_assoc]
mutual
theorem dp_lb : ∀ t : Tr, dp t ≤ (lb t).length
  | .mk l ks => by
    have := dps_lb ks
    show dps ks + 1 ≤ (l :: lbs ks).length
    rw [List.length_cons]
    omega
theorem dps_lb : ∀ ts : List Tr, dps ts ≤ (lbs ts).length
  | [] => Nat.le_refl _
  | t :: ts => by
    have h1 := dp_lb t
    have h2 := dps_lb ts
    show max (dp t) (dps ts) ≤ (lb t ++ lbs ts).length
    rw [List.length_append]
    omega
end
/-- what from_codes keeps: the open rows and labels (the last first), the labels to come; one sign each -/
def fc : List (List Tr) → List Nat → List Nat → List Nat → Option (List (List Tr) × List Nat × List Nat)
  | st, nm, ls, [] => some (st, nm, ls)
  | st, nm, ls, c :: s =>
    if c = 40 then (match ls with
      | [] => none
      | x :: ls => fc ([] :: st) (x :: nm) ls s)
    else if c = 41 then (match st, nm with
      | a :: b :: st, x :: nm => fc ((b ++ [.mk x a]) :: st) nm ls s
      | _, _ => none)
    else none
theorem fc_op {st : List (List Tr)} {nm ls s : List Nat} {x : Nat} : fc st nm (x :: ls) (40 :: s) = fc ([] :: st) (x :: nm) ls s := rfl
theorem fc_cl {a b : List Tr} {st : List (List Tr)} {nm ls s : List Nat} {x : Nat} : fc (a :: b :: st) (x :: nm) ls (41 :: s) = fc ((b ++ [.mk x a]) :: st) nm ls s := rfl
def us : List (List Tr) → List Nat → List Nat
  | [a], [] => sgs a
  | a :: st, _ :: nm => us st nm ++ 40 :: sgs a
  | _, _ => []
def ul : List (List Tr) → List Nat → List Nat
  | [a], [] => lbs a
  | a :: st, x :: nm => ul st nm ++ x :: lbs a
  | _, _ => []
theorem us_put : ∀ (b : List Tr) (st : List (List Tr)) (nm : List Nat) (x : Nat) (a : List Tr), st.length = nm.length → us ((b ++ [.mk x a]) :: st) nm = us (a :: b :: st) (x :: nm) ++ [41] ∧ ul ((b ++ [.mk x a]) :: st) nm = ul (a :: b :: st) (x :: nm)
  | b, [], [], x, a, _ => by
    simp [us, ul, sgs_app, lbs_app, sgs, lbs, sg, lb]
  | b, c :: st, y :: nm, x, a, _ => by
    simp [us, ul, sgs_app, lbs_app, sgs, lbs, sg, lb]
theorem fc_un : ∀ (s : List Nat) (st : List (List Tr)) (nm ls : List Nat) (st' : List (List Tr)) (nm' ls' : List Nat), st.length = nm.length + 1 → fc st nm ls s = some (st', nm', ls') → us st nm ++ s = us st' nm' ∧ ul st nm ++ ls = ul st' nm' ++ ls' ∧ st'.length = nm'.length + 1
  | [], st, nm, ls, st', nm', ls', hl, h => by
    cases h
    exact ⟨by simp, rfl, hl⟩
  | c :: s, st, nm, ls, st', nm', ls', hl, h => by
    unfold fc at h
    split at h
    · rename_i hc
      subst hc
      cases ls with
      | nil => cases h
      | cons x ls =>
        dsimp only at h
        obtain ⟨h1, h2, h3⟩ := fc_un s _ _ _ _ _ _ (by simp [hl]) h
        have e1 : us ([] :: st) (x :: nm) = us st nm ++ [40] := by cases st <;> simp [us, sgs]
        have e2 : ul ([] :: st) (x :: nm) = ul st nm ++ [x] := by cases st <;> simp [ul, lbs]
        rw [e1] at h1
        rw [e2] at h2
        exact ⟨by rw [← h1]; simp, by rw [← h2]; simp, h3⟩
    · split at h
      · rename_i hc
        subst hc
        match st, nm, hl, h with
        | a :: b :: st, x :: nm, hl, h =>
          have hl' : st.length = nm.length := by simpa using hl
          obtain ⟨h1, h2, h3⟩ := fc_un s _ _ _ _ _ _ (by simp [hl']) h
          obtain ⟨p1, p2⟩ := us_put b st nm x a hl'
          rw [p1] at h1
          rw [p2] at h2
          exact ⟨by rw [← h1]; simp, h2, h3⟩
        | [a], [], hl, h => cases h
        | [a], x :: nm, hl, h => cases h
        | a :: b :: st, [], hl, h => cases h
      · cases h
mutual
theorem fc_sg : ∀ (t : Tr) (a : List Tr) (st : List (List Tr)) (nm ls s : List Nat), fc (a :: st) nm (lb t ++ ls) (sg t ++ s) = fc ((a ++ [t]) :: st) nm ls s
  | .mk l ks, a, st, nm, ls, s => by
    have e1 : lb (.mk l ks) ++ ls = l :: (lbs ks ++ ls) := rfl
    have e2 : sg (.mk l ks) ++ s = 40 :: (sgs ks ++ 41 :: s) := by
      show 40 :: (sgs ks ++ [41]) ++ s = _
      simp
    rw [e1, e2, fc_op, fc_sgs ks [] (a :: st) (l :: nm) ls (41 :: s), fc_cl]
    rfl
theorem fc_sgs : ∀ (ts : List Tr) (a : List Tr) (st : List (List Tr)) (nm ls s : List Nat), fc (a :: st) nm (lbs ts ++ ls) (sgs ts ++ s) = fc ((a ++ ts) :: st) nm ls s
  | [], a, st, nm, ls, s => by
    simp [lbs, sgs]
  | t :: ts, a, st, nm, ls, s => by
    have e1 : lbs (t :: ts) ++ ls = lb t ++ (lbs ts ++ ls) := by
      show lb t ++ lbs ts ++ ls = _
      simp
    have e2 : sgs (t :: ts) ++ s = sg t ++ (sgs ts ++ s) := by
      show sg t ++ sgs ts ++ s = _
      simp
    rw [e1, e2, fc_sg t, fc_sgs ts]
    simp
end
/-- what from_codes finds -/
def rd (ls s : List Nat) : Option (List Tr) := if s.length = 2 * ls.length then (match fc [[]] [] ls s with
  | some ([a], _, _) => some a
  | _ => none) else none
theorem rd_of (ts : List Tr) (h : (sgs ts).length = 2 * (lbs ts).length) : rd (lbs ts) (sgs ts) = some ts := by
  have e := fc_sgs ts [] [] [] [] []
  simp at e
  unfold rd
  rw [if_pos h, e]
  rfl
theorem rd_un {ls s : List Nat} {ts : List Tr} (hl : ∀ ts : List Tr, (sgs ts).length = 2 * (lbs ts).length) (h : rd ls s = some ts) : sgs ts = s ∧ lbs ts = ls := by
  unfold rd at h
  split at h
  · rename_i hl2
    split at h
    · rename_i a nm' ls' e
      cases h
      obtain ⟨h1, h2, h3⟩ := fc_un s [[]] [] ls _ _ _ rfl e
      have : nm' = [] := by
        cases nm' with
        | nil => rfl
        | cons _ _ => simp at h3
      subst this
      have e1 : s = sgs ts := h1
      have e2 : ls = lbs ts ++ ls' := h2
      have e3 := hl ts
      have : ls'.length = 0 := by
        have := congrArg List.length e2
        rw [List.length_append] at this
        rw [← e1] at e3
        omega
      have : ls' = [] := List.length_eq_zero_iff.mp this
      subst this
      exact ⟨e1.symm, by rw [e2]; simp⟩
    · cases h
  · cases h
end K55
end
section
set_option linter.all false
set_option maxRecDepth 100000
set_option maxHeartbeats 4000000
/-! M55c: k55 in plain Lean: the tape is made; documents are drawn. -/
namespace K55
open PySem PL
theorem forM_inv {f : D → M O} {I : S → Prop} : ∀ (xs : List D), (∀ x ∈ xs, ∀ s, I s → ∃ s', f x s = .ok .nx s' ∧ I s') → ∀ s, I s → ∃ s', PL.forM f xs s = .ok .nx s' ∧ I s'
  | [], _, s, h => ⟨s, rfl, h⟩
  | x :: xs, k, s, h => by
    obtain ⟨s1, e1, h1⟩ := k x List.mem_cons_self s h
    obtain ⟨s2, e2, h2⟩ := forM_inv xs (fun y hy => k y (List.mem_cons_of_mem _ hy)) s1 h1
    refine ⟨s2, ?_, h2⟩
    show PL.bind (f x) _ s = _
    unfold PL.bind
    rw [e1]
    exact e2
def ab (n : Int) : Int := if n < 0 then -n else n
theorem ab_nn (n : Int) : 0 ≤ ab n := by
  unfold ab
  split <;> omega
theorem mul_5 {i : Int} {h : Hs} : mulT h (.d (.int i)) (.d (.int 31)) = some (.d (.int (i * 31))) := mul_s (by decide)
theorem call_tape {n : Nat} {ns : List Int} (hn : ns.length ≤ 63) : ∃ h', prog.call (n + 1) 6 [.scr (ns.map .int)] [] = .ok (.d (.ref 0)) ⟨[], h'⟩ ∧ Tp h' := by
  have tu : turns [some (.d (.scr (ns.map .int))), none, none, none] (fun x => PL.bind (G.put (.nm 2) (.d x)) fun _ => PL.bind (E.ev (prog.ctx n) true (.prim .abs [.prim .int_ [.var 2]])) fun t => PL.bind (needD t) fun d => PL.ret (some d)) (ns.map .int) [] = .ok (ns.map fun x => .int (ab x)) ⟨[some (.d (.scr (ns.map .int))), none, none, none], []⟩ := by
    refine turns_mapT fun x hx => ?_
    simp (disch := first | omega | simp) [PL.ev_var, PL.ev_mv, PL.ev_pop, PL.ev_cst, PL.ev_tup, PL.ev_lst, PL.ev_hlst, PL.ev_hdict, PL.ev_prim, PL.ev_and, PL.ev_or, PL.ev_not, PL.ev_ite, PL.ev_chain, PL.ev_call, PL.evs_nil, PL.evs_cons, PL.avs_nil, PL.avs_cons, PL.src_of, PL.src_range, PL.src_range2, PL.st_asg_, PL.st_swap_, PL.st_aug_, PL.st_append_, PL.st_hput_, PL.st_happend_, PL.st_expr_, PL.st_if_, PL.st_ret_, PL.st_raise_, PL.st_freeze_, PL.sts_nil, PL.sts_cons, PL.avOf, PL.bind, PL.ret, PL.see, PL.lift, PL.fail, PL.slot, PL.setSl, PL.needD, PL.truthAv, PL.truth, PL.test, PL.runP, PL.gets, PL.Av.get, PL.P.run, PL.addT, PL.G.put, PL.G.puts, PL.Prog.ctx, PL.walkAv, PL.walkOf, PL.wipe, PL.Def.start, PL.Def.run, PL.isOl, PL.isLref, PL.so_lit, PL.so_nil, PL.so_app, PL.so_len, PL.ite_big, PL.ite_bigN]
    exact ⟨_, ⟨rfl, rfl⟩, rfl⟩
  have hc : E.ev (prog.ctx n) false (.comp [2] (.of (.var 0)) (.nm 2) (.prim .abs [.prim .int_ [.var 2]])) ⟨[some (.d (.scr (ns.map .int))), none, none, none], []⟩ = .ok (.ol (ns.map fun x => .int (ab x))) ⟨[some (.d (.scr (ns.map .int))), none, none, none], []⟩ := by
    refine ev_comp (xs := ns.map .int) (s1 := ⟨[some (.d (.scr (ns.map .int))), none, none, none], []⟩) (s2 := ⟨[some (.d (.scr (ns.map .int))), none, none, none], []⟩) rfl (by rw [List.length_map]; omega) ?_
    exact tu
  simp only [PL.Prog.ctx] at hc
  have hf : ∃ s' : S, PL.St.ex (prog.ctx n) (.for_ (.nm 2) (.of (.var 1)) [.asg (.nm 3) (.prim .mod [.prim .int_ [.prim .add [.prim .mul [.var 3, .cst (.int 31)], .var 2]], .cst (.int 2147483647)])]) ⟨[some (.d (.scr (ns.map .int))), some (.d (.lst (ns.map fun x => .int (ab x)))), none, some (.d (.int 7))], []⟩ = .ok .nx s' ∧
      ∃ c2 sd, s' = ⟨[some (.d (.scr (ns.map .int))), some (.d (.lst (ns.map fun x => .int (ab x)))), c2, some (.d (.int sd))], []⟩ := by
    have go := forM_inv (f := fun x => PL.bind (G.put (.nm 2) (.d x)) fun _ => Sts.ex (prog.ctx n) [.asg (.nm 3) (.prim .mod [.prim .int_ [.prim .add [.prim .mul [.var 3, .cst (.int 31)], .var 2]], .cst (.int 2147483647)])])
      (I := fun s => ∃ c2 sd, s = ⟨[some (.d (.scr (ns.map .int))), some (.d (.lst (ns.map fun x => .int (ab x)))), c2, some (.d (.int sd))], []⟩) (ns.map fun x => .int (ab x)) (fun x hx s hs => by
        obtain ⟨c2, sd, rfl⟩ := hs
        obtain ⟨y, _, rfl⟩ := List.mem_map.mp hx
        simp (disch := first | omega | simp) [PL.ev_var, PL.ev_mv, PL.ev_pop, PL.ev_cst, PL.ev_tup, PL.ev_lst, PL.ev_hlst, PL.ev_hdict, PL.ev_prim, PL.ev_and, PL.ev_or, PL.ev_not, PL.ev_ite, PL.ev_chain, PL.ev_call, PL.evs_nil, PL.evs_cons, PL.avs_nil, PL.avs_cons, PL.src_of, PL.src_range, PL.src_range2, PL.st_asg_, PL.st_swap_, PL.st_aug_, PL.st_append_, PL.st_hput_, PL.st_happend_, PL.st_expr_, PL.st_if_, PL.st_ret_, PL.st_raise_, PL.st_freeze_, PL.sts_nil, PL.sts_cons, PL.avOf, PL.bind, PL.ret, PL.see, PL.lift, PL.fail, PL.slot, PL.setSl, PL.needD, PL.truthAv, PL.truth, PL.test, PL.runP, PL.gets, PL.Av.get, PL.P.run, PL.addT, PL.G.put, PL.G.puts, PL.Prog.ctx, PL.walkAv, PL.walkOf, PL.wipe, PL.Def.start, PL.Def.run, PL.isOl, PL.isLref, PL.so_lit, PL.so_nil, PL.so_app, PL.so_len, PL.ite_big, PL.ite_bigN, opI, mul_5]) _ ⟨none, 7, rfl⟩
    obtain ⟨s', e, i⟩ := go
    refine ⟨s', ?_, i⟩
    simp (disch := first | omega | simp) [PL.ev_var, PL.ev_mv, PL.ev_pop, PL.ev_cst, PL.ev_tup, PL.ev_lst, PL.ev_hlst, PL.ev_hdict, PL.ev_prim, PL.ev_and, PL.ev_or, PL.ev_not, PL.ev_ite, PL.ev_chain, PL.ev_call, PL.evs_nil, PL.evs_cons, PL.avs_nil, PL.avs_cons, PL.src_of, PL.src_range, PL.src_range2, PL.st_asg_, PL.st_swap_, PL.st_aug_, PL.st_append_, PL.st_hput_, PL.st_happend_, PL.st_expr_, PL.st_if_, PL.st_ret_, PL.st_raise_, PL.st_freeze_, PL.sts_nil, PL.sts_cons, PL.avOf, PL.bind, PL.ret, PL.see, PL.lift, PL.fail, PL.slot, PL.setSl, PL.needD, PL.truthAv, PL.truth, PL.test, PL.runP, PL.gets, PL.Av.get, PL.P.run, PL.addT, PL.G.put, PL.G.puts, PL.Prog.ctx, PL.walkAv, PL.walkOf, PL.wipe, PL.Def.start, PL.Def.run, PL.isOl, PL.isLref, PL.so_lit, PL.so_nil, PL.so_app, PL.so_len, PL.ite_big, PL.ite_bigN, PL.st_for_]
    exact e
  obtain ⟨s', hf, c2, sd, rfl⟩ := hf
  simp only [PL.Prog.ctx] at hf
  refine ⟨[.dct (tp (ns.map ab) (0 : Nat) 0 sd 0)], ?_, ⟨ns.map ab, 0, 0, sd, 0, [], rfl, fun c hc => ?_, by rw [List.length_map]; omega, Int.le_refl _⟩⟩
  · show c_law_tape.run (prog.ctx n) [.scr (ns.map .int)] [] = _
    simp (disch := first | omega | simp) [PL.ev_var, PL.ev_mv, PL.ev_pop, PL.ev_cst, PL.ev_tup, PL.ev_lst, PL.ev_hlst, PL.ev_hdict, PL.ev_prim, PL.ev_and, PL.ev_or, PL.ev_not, PL.ev_ite, PL.ev_chain, PL.ev_call, PL.evs_nil, PL.evs_cons, PL.avs_nil, PL.avs_cons, PL.src_of, PL.src_range, PL.src_range2, PL.st_asg_, PL.st_swap_, PL.st_aug_, PL.st_append_, PL.st_hput_, PL.st_happend_, PL.st_expr_, PL.st_if_, PL.st_ret_, PL.st_raise_, PL.st_freeze_, PL.sts_nil, PL.sts_cons, PL.avOf, PL.bind, PL.ret, PL.see, PL.lift, PL.fail, PL.slot, PL.setSl, PL.needD, PL.truthAv, PL.truth, PL.test, PL.runP, PL.gets, PL.Av.get, PL.P.run, PL.addT, PL.G.put, PL.G.puts, PL.Prog.ctx, PL.walkAv, PL.walkOf, PL.wipe, PL.Def.start, PL.Def.run, PL.isOl, PL.isLref, PL.so_lit, PL.so_nil, PL.so_app, PL.so_len, PL.ite_big, PL.ite_bigN, c_law_tape, hc, hf, List.replicate]
    unfold tp
    simp [Function.comp_def]
  · obtain ⟨y, _, rfl⟩ := List.mem_map.mp hc
    exact ab_nn y
end K55
end
section
set_option linter.all false
set_option maxRecDepth 100000
set_option maxHeartbeats 4000000
/-! M55d: k55 in plain Lean: documents are drawn. -/
namespace K55
open PySem PL
/-- while, by a bound of the turns that are left -/
theorem while_inv {c : M Bool} {b : M O} {I : Nat → S → Prop} {Post : S → Prop} (hs : ∀ k s, I k s → (∃ s1, c s = .ok false s1 ∧ Post s1) ∨ (∃ s1 s2 j, c s = .ok true s1 ∧ b s1 = .ok .nx s2 ∧ j < k ∧ I j s2)) :
    ∀ (k n : Nat) (s : S), k < n → I k s → ∃ s', whileM c b n s = .ok .nx s' ∧ Post s' := by
  intro k
  induction k using Nat.strongRecOn with
  | ind k ih =>
    intro n s hn h
    cases n with
    | zero => exact absurd hn (Nat.not_lt_zero _)
    | succ n =>
      rcases hs k s h with ⟨s1, e1, p⟩ | ⟨s1, s2, j, e1, e2, hj, h2⟩
      · refine ⟨s1, ?_, p⟩
        show PL.bind c _ s = _
        unfold PL.bind
        rw [e1]
        rfl
      · obtain ⟨s', e3, p⟩ := ih j hj n s2 (by omega) h2
        refine ⟨s', ?_, p⟩
        show PL.bind c _ s = _
        unfold PL.bind
        rw [e1]
        dsimp only
        rw [if_pos rfl, e2]
        exact e3
end K55
end
section
set_option linter.all false
set_option maxRecDepth 100000
set_option maxHeartbeats 4000000
/-! M55e: k55 in plain Lean: documents are drawn. -/
namespace K55
open PySem PL
theorem trDs_app : ∀ a b : List Tr, trDs (a ++ b) = trDs a ++ trDs b
  | [], b => rfl
  | t :: a, b => by
    show trD t :: trDs (a ++ b) = trD t :: trDs a ++ trDs b
    rw [trDs_app a b]
    rfl
theorem trDs_len : ∀ a : List Tr, (trDs a).length = a.length
  | [] => rfl
  | t :: a => by
    show (trDs a).length + 1 = _
    rw [trDs_len a]
    rfl
theorem dps_app : ∀ a b : List Tr, dps (a ++ b) = max (dps a) (dps b)
  | [], b => by simp [dps]
  | t :: a, b => by
    show max (dp t) (dps (a ++ b)) = max (max (dp t) (dps a)) (dps b)
    rw [dps_app a b]
    omega
theorem lenT_ol {h : Hs} {xs : List D} : lenT h (.ol xs) = some (.d (.int xs.length)) := rfl
def rowsC : E := .and_ (.prim .lt [.prim .len [.var 3], .cst (.int 3)]) (.and_ (.prim .gt [.var 1, .cst (.int 0)]) (.prim .gt [.call 7 [.var 0, .cst (.int 4)], .cst (.int 0)]))
def rowsB : List PL.St := [.asg (.nm 4) (.ite (.prim .gt [.var 2, .cst (.int 0)]) (.call 8 [.var 0, .prim .sub [.var 1, .cst (.int 1)], .prim .sub [.var 2, .cst (.int 1)]]) (.tup [])), .append 3 (.tup [.prim .idx [.lst [.cst (.str ⟨#[97]⟩), .cst (.str ⟨#[98]⟩), .cst (.str ⟨#[99]⟩)], .call 7 [.var 0, .cst (.int 3)]], .var 4]), .asg (.nm 1) (.prim .sub [.prim .sub [.var 1, .cst (.int 1)], .call 9 [.var 4]])]
theorem abc (d : Int) (h0 : 0 ≤ d) (h3 : d < 3) (h : Hs) : ∃ l, idxL h (.ol [.str (so [97]), .str (so [98]), .str (so [99])]) d = some (.d (.str (so [l]))) := by
  have : d = 0 ∨ d = 1 ∨ d = 2 := by omega
  rcases this with rfl | rfl | rfl
  · exact ⟨97, rfl⟩
  · exact ⟨98, rfl⟩
  · exact ⟨99, rfl⟩
theorem call_rows : ∀ (deep : Nat) (n : Nat) (dI most : Int) (h : Hs), dI = deep → deep + 3 ≤ n → 0 ≤ most → most ≤ 9 → Tp h → ∃ ts h', prog.call n 8 [.ref 0, .int most, .int dI] h = .ok (.d (.tup (trDs ts))) ⟨[], h'⟩ ∧ Tp h' ∧ ((lbs ts).length : Int) ≤ most ∧ dps ts ≤ deep + 1
  | deep, 0, dI, most, h, _, hn, _, _, _ => by omega
  | deep, 1, dI, most, h, _, hn, _, _, _ => by omega
  | deep, n + 2, dI, most, h, hd, hn, hm0, hm9, ht => by
    show ∃ ts h', c_law_rows.run (prog.ctx (n + 1)) [.ref 0, .int most, .int dI] h = _ ∧ _
    have inner : ∀ (m : Int) (i : Option T) (xs : List D) (h : Hs), 0 < m → m ≤ 9 → Tp h → ∃ ks h', E.ev (prog.ctx (n + 1)) false (.ite (.prim .gt [.var 2, .cst (.int 0)]) (.call 8 [.var 0, .prim .sub [.var 1, .cst (.int 1)], .prim .sub [.var 2, .cst (.int 1)]]) (.tup [])) ⟨[some (.d (.ref 0)), some (.d (.int m)), some (.d (.int dI)), some (.ol xs), i], h⟩ = .ok (.d (.tup (trDs ks))) ⟨[some (.d (.ref 0)), some (.d (.int m)), some (.d (.int dI)), some (.ol xs), i], h'⟩ ∧ Tp h' ∧ ((lbs ks).length : Int) ≤ m - 1 ∧ dps ks ≤ deep := by
      intro m i xs h h1 h9 ht
      cases deep with
      | zero =>
        refine ⟨[], h, ?_, ht, by simp [lbs]; omega, Nat.le_refl _⟩
        have hd : dI = 0 := hd
        subst hd
        simp (disch := first | omega | simp) [PL.ev_var, PL.ev_mv, PL.ev_pop, PL.ev_cst, PL.ev_tup, PL.ev_lst, PL.ev_hlst, PL.ev_hdict, PL.ev_prim, PL.ev_and, PL.ev_or, PL.ev_not, PL.ev_ite, PL.ev_chain, PL.ev_call, PL.evs_nil, PL.evs_cons, PL.avs_nil, PL.avs_cons, PL.src_of, PL.src_range, PL.src_range2, PL.st_asg_, PL.st_swap_, PL.st_aug_, PL.st_append_, PL.st_hput_, PL.st_happend_, PL.st_expr_, PL.st_if_, PL.st_ret_, PL.st_raise_, PL.st_freeze_, PL.sts_nil, PL.sts_cons, PL.avOf, PL.bind, PL.ret, PL.see, PL.lift, PL.fail, PL.slot, PL.setSl, PL.needD, PL.truthAv, PL.truth, PL.test, PL.runP, PL.gets, PL.Av.get, PL.P.run, PL.addT, PL.G.put, PL.G.puts, PL.Prog.ctx, PL.walkAv, PL.walkOf, PL.wipe, PL.Def.start, PL.Def.run, PL.isOl, PL.isLref, PL.so_lit, PL.so_nil, PL.so_app, PL.so_len, PL.ite_big, PL.ite_bigN, trDs, cmpI]
      | succ deep =>
        obtain ⟨ks, h', e, t, l1, l2⟩ := call_rows deep (n + 1) (dI - 1) (m - 1) h (by omega) (by omega) (by omega) (by omega) ht
        refine ⟨ks, h', ?_, t, l1, l2⟩
        have hp : 0 < dI := by omega
        simp (disch := first | omega | simp) [PL.ev_var, PL.ev_mv, PL.ev_pop, PL.ev_cst, PL.ev_tup, PL.ev_lst, PL.ev_hlst, PL.ev_hdict, PL.ev_prim, PL.ev_and, PL.ev_or, PL.ev_not, PL.ev_ite, PL.ev_chain, PL.ev_call, PL.evs_nil, PL.evs_cons, PL.avs_nil, PL.avs_cons, PL.src_of, PL.src_range, PL.src_range2, PL.st_asg_, PL.st_swap_, PL.st_aug_, PL.st_append_, PL.st_hput_, PL.st_happend_, PL.st_expr_, PL.st_if_, PL.st_ret_, PL.st_raise_, PL.st_freeze_, PL.sts_nil, PL.sts_cons, PL.avOf, PL.bind, PL.ret, PL.see, PL.lift, PL.fail, PL.slot, PL.setSl, PL.needD, PL.truthAv, PL.truth, PL.test, PL.runP, PL.gets, PL.Av.get, PL.P.run, PL.addT, PL.G.put, PL.G.puts, PL.Prog.ctx, PL.walkAv, PL.walkOf, PL.wipe, PL.Def.start, PL.Def.run, PL.isOl, PL.isLref, PL.so_lit, PL.so_nil, PL.so_app, PL.so_len, PL.ite_big, PL.ite_bigN, cmpI, opI, hp, e]
    have loop := while_inv (c := test (prog.ctx (n + 1)) rowsC) (b := Sts.ex (prog.ctx (n + 1)) rowsB)
      (I := fun k s => ∃ ts m i h, s = (⟨[some (.d (.ref 0)), some (.d (.int m)), some (.d (.int dI)), some (.ol (trDs ts)), i], h⟩ : S) ∧ Tp h ∧ 0 ≤ m ∧ m + ((lbs ts).length : Int) ≤ most ∧ dps ts ≤ deep + 1 ∧ ts.length + k = 3)
      (Post := fun s => ∃ ts m i h, s = (⟨[some (.d (.ref 0)), some (.d (.int m)), some (.d (.int dI)), some (.ol (trDs ts)), i], h⟩ : S) ∧ Tp h ∧ ((lbs ts).length : Int) ≤ most ∧ dps ts ≤ deep + 1)
      (fun k s hI => by
        obtain ⟨ts, m, i, h, rfl, ht, hm, hl, hdp, hk⟩ := hI
        have hle : ((trDs ts).length : Int) = ts.length := by rw [trDs_len]
        by_cases h3 : (ts.length : Int) < 3
        · by_cases hm1 : 0 < m
          · obtain ⟨d, h1, e1, t1, d0, d4⟩ := call_take (n := n) (m := 4) ht (by decide) (by decide)
            by_cases hd0 : 0 < d
            · right
              obtain ⟨ks, h2, e2, t2, l2, p2⟩ := inner m i (trDs ts) h1 hm1 (by omega) t1
              obtain ⟨d', h3', e3, t3, d30, d33⟩ := call_take (n := n) (m := 3) t2 (by decide) (by decide)
              obtain ⟨l, hab⟩ := abc d' d30 d33 h3'
              have e4 := call_size (n + 1) ks h3' (by omega) (by have := lb_len ks; omega)
              refine ⟨⟨[some (.d (.ref 0)), some (.d (.int m)), some (.d (.int dI)), some (.ol (trDs ts)), i], h1⟩, ⟨[some (.d (.ref 0)), some (.d (.int (m - 1 - (lbs ks).length))), some (.d (.int dI)), some (.ol (trDs (ts ++ [.mk l ks]))), some (.d (.tup (trDs ks)))], h3'⟩, k - 1, ?_, ?_, by omega, ts ++ [.mk l ks], m - 1 - (lbs ks).length, _, h3', rfl, t3, by omega, ?_, ?_, ?_⟩
              · unfold rowsC
                simp (disch := first | omega | simp) [PL.ev_var, PL.ev_mv, PL.ev_pop, PL.ev_cst, PL.ev_tup, PL.ev_lst, PL.ev_hlst, PL.ev_hdict, PL.ev_prim, PL.ev_and, PL.ev_or, PL.ev_not, PL.ev_ite, PL.ev_chain, PL.ev_call, PL.evs_nil, PL.evs_cons, PL.avs_nil, PL.avs_cons, PL.src_of, PL.src_range, PL.src_range2, PL.st_asg_, PL.st_swap_, PL.st_aug_, PL.st_append_, PL.st_hput_, PL.st_happend_, PL.st_expr_, PL.st_if_, PL.st_ret_, PL.st_raise_, PL.st_freeze_, PL.sts_nil, PL.sts_cons, PL.avOf, PL.bind, PL.ret, PL.see, PL.lift, PL.fail, PL.slot, PL.setSl, PL.needD, PL.truthAv, PL.truth, PL.test, PL.runP, PL.gets, PL.Av.get, PL.P.run, PL.addT, PL.G.put, PL.G.puts, PL.Prog.ctx, PL.walkAv, PL.walkOf, PL.wipe, PL.Def.start, PL.Def.run, PL.isOl, PL.isLref, PL.so_lit, PL.so_nil, PL.so_app, PL.so_len, PL.ite_big, PL.ite_bigN, lenT_ol, hle, cmpI, h3, hm1, e1, hd0]
              · unfold rowsB
                simp only [PL.Prog.ctx] at e2
                have e5 : trDs (ts ++ [.mk l ks]) = trDs ts ++ [.tup [.str (so [l]), .tup (trDs ks)]] := by
                  rw [trDs_app]
                  rfl
                rw [e5]
                simp (disch := first | omega | simp) [PL.ev_var, PL.ev_mv, PL.ev_pop, PL.ev_cst, PL.ev_tup, PL.ev_lst, PL.ev_hlst, PL.ev_hdict, PL.ev_prim, PL.ev_and, PL.ev_or, PL.ev_not, PL.ev_ite, PL.ev_chain, PL.ev_call, PL.evs_nil, PL.evs_cons, PL.avs_nil, PL.avs_cons, PL.src_of, PL.src_range, PL.src_range2, PL.st_asg_, PL.st_swap_, PL.st_aug_, PL.st_append_, PL.st_hput_, PL.st_happend_, PL.st_expr_, PL.st_if_, PL.st_ret_, PL.st_raise_, PL.st_freeze_, PL.sts_nil, PL.sts_cons, PL.avOf, PL.bind, PL.ret, PL.see, PL.lift, PL.fail, PL.slot, PL.setSl, PL.needD, PL.truthAv, PL.truth, PL.test, PL.runP, PL.gets, PL.Av.get, PL.P.run, PL.addT, PL.G.put, PL.G.puts, PL.Prog.ctx, PL.walkAv, PL.walkOf, PL.wipe, PL.Def.start, PL.Def.run, PL.isOl, PL.isLref, PL.so_lit, PL.so_nil, PL.so_app, PL.so_len, PL.ite_big, PL.ite_bigN, e2, e3, idxT, hab, e4, opI]
              · rw [lbs_app]
                have : lbs [Tr.mk l ks] = l :: lbs ks := by
                  show l :: lbs ks ++ [] = _
                  simp
                rw [this, List.length_append, List.length_cons]
                omega
              · rw [dps_app]
                have : dps [Tr.mk l ks] = dps ks + 1 := by
                  show max (dps ks + 1) 0 = _
                  omega
                omega
              · rw [List.length_append]
                show ts.length + 1 + (k - 1) = 3
                omega
            · left
              refine ⟨⟨[some (.d (.ref 0)), some (.d (.int m)), some (.d (.int dI)), some (.ol (trDs ts)), i], h1⟩, ?_, ts, m, i, h1, rfl, t1, by omega, hdp⟩
              unfold rowsC
              simp (disch := first | omega | simp) [PL.ev_var, PL.ev_mv, PL.ev_pop, PL.ev_cst, PL.ev_tup, PL.ev_lst, PL.ev_hlst, PL.ev_hdict, PL.ev_prim, PL.ev_and, PL.ev_or, PL.ev_not, PL.ev_ite, PL.ev_chain, PL.ev_call, PL.evs_nil, PL.evs_cons, PL.avs_nil, PL.avs_cons, PL.src_of, PL.src_range, PL.src_range2, PL.st_asg_, PL.st_swap_, PL.st_aug_, PL.st_append_, PL.st_hput_, PL.st_happend_, PL.st_expr_, PL.st_if_, PL.st_ret_, PL.st_raise_, PL.st_freeze_, PL.sts_nil, PL.sts_cons, PL.avOf, PL.bind, PL.ret, PL.see, PL.lift, PL.fail, PL.slot, PL.setSl, PL.needD, PL.truthAv, PL.truth, PL.test, PL.runP, PL.gets, PL.Av.get, PL.P.run, PL.addT, PL.G.put, PL.G.puts, PL.Prog.ctx, PL.walkAv, PL.walkOf, PL.wipe, PL.Def.start, PL.Def.run, PL.isOl, PL.isLref, PL.so_lit, PL.so_nil, PL.so_app, PL.so_len, PL.ite_big, PL.ite_bigN, lenT_ol, hle, cmpI, h3, hm1, e1, hd0]
          · left
            refine ⟨⟨[some (.d (.ref 0)), some (.d (.int m)), some (.d (.int dI)), some (.ol (trDs ts)), i], h⟩, ?_, ts, m, i, h, rfl, ht, by omega, hdp⟩
            unfold rowsC
            simp (disch := first | omega | simp) [PL.ev_var, PL.ev_mv, PL.ev_pop, PL.ev_cst, PL.ev_tup, PL.ev_lst, PL.ev_hlst, PL.ev_hdict, PL.ev_prim, PL.ev_and, PL.ev_or, PL.ev_not, PL.ev_ite, PL.ev_chain, PL.ev_call, PL.evs_nil, PL.evs_cons, PL.avs_nil, PL.avs_cons, PL.src_of, PL.src_range, PL.src_range2, PL.st_asg_, PL.st_swap_, PL.st_aug_, PL.st_append_, PL.st_hput_, PL.st_happend_, PL.st_expr_, PL.st_if_, PL.st_ret_, PL.st_raise_, PL.st_freeze_, PL.sts_nil, PL.sts_cons, PL.avOf, PL.bind, PL.ret, PL.see, PL.lift, PL.fail, PL.slot, PL.setSl, PL.needD, PL.truthAv, PL.truth, PL.test, PL.runP, PL.gets, PL.Av.get, PL.P.run, PL.addT, PL.G.put, PL.G.puts, PL.Prog.ctx, PL.walkAv, PL.walkOf, PL.wipe, PL.Def.start, PL.Def.run, PL.isOl, PL.isLref, PL.so_lit, PL.so_nil, PL.so_app, PL.so_len, PL.ite_big, PL.ite_bigN, lenT_ol, hle, cmpI, h3, hm1]
        · left
          refine ⟨⟨[some (.d (.ref 0)), some (.d (.int m)), some (.d (.int dI)), some (.ol (trDs ts)), i], h⟩, ?_, ts, m, i, h, rfl, ht, by omega, hdp⟩
          unfold rowsC
          simp (disch := first | omega | simp) [PL.ev_var, PL.ev_mv, PL.ev_pop, PL.ev_cst, PL.ev_tup, PL.ev_lst, PL.ev_hlst, PL.ev_hdict, PL.ev_prim, PL.ev_and, PL.ev_or, PL.ev_not, PL.ev_ite, PL.ev_chain, PL.ev_call, PL.evs_nil, PL.evs_cons, PL.avs_nil, PL.avs_cons, PL.src_of, PL.src_range, PL.src_range2, PL.st_asg_, PL.st_swap_, PL.st_aug_, PL.st_append_, PL.st_hput_, PL.st_happend_, PL.st_expr_, PL.st_if_, PL.st_ret_, PL.st_raise_, PL.st_freeze_, PL.sts_nil, PL.sts_cons, PL.avOf, PL.bind, PL.ret, PL.see, PL.lift, PL.fail, PL.slot, PL.setSl, PL.needD, PL.truthAv, PL.truth, PL.test, PL.runP, PL.gets, PL.Av.get, PL.P.run, PL.addT, PL.G.put, PL.G.puts, PL.Prog.ctx, PL.walkAv, PL.walkOf, PL.wipe, PL.Def.start, PL.Def.run, PL.isOl, PL.isLref, PL.so_lit, PL.so_nil, PL.so_app, PL.so_len, PL.ite_big, PL.ite_bigN, lenT_ol, hle, cmpI, h3])
      3 prog.fuel ⟨[some (.d (.ref 0)), some (.d (.int most)), some (.d (.int dI)), some (.ol []), none], h⟩ (by decide) ⟨[], most, none, h, rfl, ht, hm0, by simp [lbs], by simp [dps], rfl⟩
    obtain ⟨s', e, ts, m, i, h', rfl, t', hl, hp⟩ := loop
    refine ⟨ts, h', ?_, t', hl, hp⟩
    have hw : PL.St.ex (prog.ctx (n + 1)) (.while_ rowsC rowsB) ⟨[some (.d (.ref 0)), some (.d (.int most)), some (.d (.int dI)), some (.ol []), none], h⟩ = .ok .nx ⟨[some (.d (.ref 0)), some (.d (.int m)), some (.d (.int dI)), some (.ol (trDs ts)), i], h'⟩ := e
    unfold rowsC rowsB at hw
    simp only [PL.Prog.ctx, PL.so_lit] at hw
    simp (disch := first | omega | simp) [PL.ev_var, PL.ev_mv, PL.ev_pop, PL.ev_cst, PL.ev_tup, PL.ev_lst, PL.ev_hlst, PL.ev_hdict, PL.ev_prim, PL.ev_and, PL.ev_or, PL.ev_not, PL.ev_ite, PL.ev_chain, PL.ev_call, PL.evs_nil, PL.evs_cons, PL.avs_nil, PL.avs_cons, PL.src_of, PL.src_range, PL.src_range2, PL.st_asg_, PL.st_swap_, PL.st_aug_, PL.st_append_, PL.st_hput_, PL.st_happend_, PL.st_expr_, PL.st_if_, PL.st_ret_, PL.st_raise_, PL.st_freeze_, PL.sts_nil, PL.sts_cons, PL.avOf, PL.bind, PL.ret, PL.see, PL.lift, PL.fail, PL.slot, PL.setSl, PL.needD, PL.truthAv, PL.truth, PL.test, PL.runP, PL.gets, PL.Av.get, PL.P.run, PL.addT, PL.G.put, PL.G.puts, PL.Prog.ctx, PL.walkAv, PL.walkOf, PL.wipe, PL.Def.start, PL.Def.run, PL.isOl, PL.isLref, PL.so_lit, PL.so_nil, PL.so_app, PL.so_len, PL.ite_big, PL.ite_bigN, c_law_rows, List.replicate, hw, tupT, seqOf, lstOf]
end K55
end
section
set_option linter.all false
set_option maxRecDepth 100000
set_option maxHeartbeats 4000000
/-! M55f: k55 in plain Lean: from_codes. -/
namespace K55
open PySem PL
theorem eq_str {x y : Str} : eqT (.d (.str x)) (.d (.str y)) = some (x == y) := rfl
theorem so_beq (a b : List Nat) : (so a == so b) = decide (a = b) := by
  by_cases h : a = b
  · subst h
    simp
  · rw [decide_eq_false h]
    exact beq_eq_false_iff_ne.mpr fun e => h (so_inj.mp e)
theorem mul_2x {j : Int} {h : Hs} : mulT h (.d (.int 2)) (.d (.int j)) = some (.d (.int (2 * j))) := by
  unfold mulT
  simp [small]
def rf (rs : List Nat) : List D := rs.reverse.map .ref
theorem rf_cons (r : Nat) (rs : List Nat) : rf (r :: rs) = rf rs ++ [.ref r] := by
  unfold rf
  simp
theorem rf_nil : rf [] = [] := rfl
theorem rf_len (rs : List Nat) : (rf rs).length = rs.length := by
  unfold rf
  simp
def zf (rs : List Nat) : List D := rs.reverse.map fun x => .str (so [x])
theorem zf_cons (r : Nat) (rs : List Nat) : zf (r :: rs) = zf rs ++ [.str (so [r])] := by
  unfold zf
  simp
theorem zf_nil : zf [] = [] := rfl
theorem zf_len (rs : List Nat) : (zf rs).length = rs.length := by
  unfold zf
  simp
/-- the rows that are open: where they lie -/
inductive Sk (b m : Nat) (h : Hs) : List Nat → List (List Tr) → Prop where
  | nil : Sk b m h [] []
  | cons {r : Nat} {rs : List Nat} {ts : List Tr} {st : List (List Tr)} : b ≤ r → (∀ x ∈ rs, x < r) → h[r]? = some (.lst (trDs ts)) → ts.length ≤ m → Sk b m h rs st → Sk b m h (r :: rs) (ts :: st)
theorem Sk.len {b m : Nat} {h : Hs} {rs : List Nat} {st : List (List Tr)} (k : Sk b m h rs st) : rs.length = st.length := by
  induction k with
  | nil => rfl
  | cons _ _ _ _ _ ih => simp [ih]
theorem Sk.lt {b m : Nat} {h : Hs} {rs : List Nat} {st : List (List Tr)} (k : Sk b m h rs st) : ∀ x ∈ rs, x < h.length := by
  induction k with
  | nil => simp
  | cons _ _ h3 _ _ ih =>
    intro x hx
    rcases List.mem_cons.mp hx with rfl | hx
    · exact (List.getElem?_eq_some_iff.mp h3).1
    · exact ih x hx
theorem Sk.app {b m m' : Nat} {h : Hs} {g : Hs} {rs : List Nat} {st : List (List Tr)} (hm : m ≤ m') (k : Sk b m h rs st) : Sk b m' (h ++ g) rs st := by
  induction k with
  | nil => exact .nil
  | cons h1 h2 h3 h4 k ih =>
    refine .cons h1 h2 ?_ (by omega) ih
    rw [List.getElem?_append_left (List.getElem?_eq_some_iff.mp h3).1, h3]
theorem Sk.set {b m m' : Nat} {h : Hs} {r : Nat} {o : AO} {rs : List Nat} {st : List (List Tr)} (hm : m ≤ m') (k : Sk b m h rs st) (hr : ∀ x ∈ rs, x < r) : Sk b m' (h.set r o) rs st := by
  induction k with
  | nil => exact .nil
  | @cons q rs ts st h1 h2 h3 h4 k ih =>
    have : q < r := hr q List.mem_cons_self
    refine .cons h1 h2 ?_ (by omega) (ih fun x hx => hr x (List.mem_cons_of_mem _ hx))
    rw [List.getElem?_set_ne (by omega), h3]
theorem set_pre {h0 g : Hs} {r : Nat} {o : AO} (hb : h0.length ≤ r) : ∃ g', (h0 ++ g).set r o = h0 ++ g' := ⟨g.set (r - h0.length) o, by rw [List.set_append_right _ _ hb]⟩
theorem idxZ_at {ls rest : List Nat} {k x : Nat} (h : ls.drop k = x :: rest) (hl : ls.length < 100000) : idxZ (so ls) (k : Int) = some (.d (.str (so [x]))) := by
  unfold idxZ
  rw [so_len, ite_big hl]
  have : ls[k]? = some x := by
    have := congrArg (fun l => l[0]?) h
    simpa using this
  have e : L2.atI (so ls).cps.toList (k : Int) = some x := L2.atI_nat this
  rw [e]
  rfl
theorem idx_last {h : Hs} {xs : List D} {x : D} : idxL h (.ol (xs ++ [x])) (-1) = some (.d x) := by
  show (match L2.atI (xs ++ [x]) (-1) with
    | some v => some (T.d v)
    | none => none) = _
  rw [L2.atI_last]
theorem lenT_so {h : Hs} {l : List Nat} (hl : l.length < 100000) : lenT h (.d (.str (so l))) = some (.d (.int l.length)) := by
  show (if (so l).length < big then some (T.d (D.int (so l).length)) else none) = _
  rw [so_len, ite_big hl]
def codesB : List PL.St := [.if_ (.prim .eq [.var 5, .cst (.str ⟨#[40]⟩)]) [.if_ (.prim .ge [.var 4, .prim .len [.var 1]]) [.raise 1] [], .append 3 (.prim .idx [.var 1, .var 4]), .aug 4 .add (.cst (.int 1)), .append 2 (.hlst [])] [.if_ (.and_ (.prim .eq [.var 5, .cst (.str ⟨#[41]⟩)]) (.prim .gt [.prim .len [.var 2], .cst (.int 1)])) [.asg (.nm 6) (.prim .tuple [.pop 2]), .happend (.prim .idx [.var 2, .prim .neg [.cst (.int 1)]]) (.tup [.pop 3, .var 6])] [.raise 1]]]
def codesS (s ls : List Nat) (rs nm : List Nat) (k : Nat) (c5 c6 : Option T) (h : Hs) : S := ⟨[some (.d (.str (so s))), some (.d (.str (so ls))), some (.ol (rf rs)), some (.ol (zf nm)), some (.d (.int k)), c5, c6], h⟩
theorem codes_loop {n : Nat} {S0 ls : List Nat} {h0 : Hs} (hls : ls.length ≤ 1000) : ∀ (s : List Nat) (st : List (List Tr)) (nm rest : List Nat) (k : Nat) (rs : List Nat) (g : Hs) (c5 c6 : Option T),
    Sk h0.length (1000 - s.length) (h0 ++ g) rs st → s.length + nm.length ≤ 1000 → s.length + rs.length ≤ 1001 → rs.length = nm.length + 1 → ls.drop k = rest →
    (∃ st' nm' rest' k' rs' g' c5' c6', fc st nm rest s = some (st', nm', rest') ∧ PL.forM (fun x => PL.bind (G.put (.nm 5) (.d x)) fun _ => Sts.ex (prog.ctx n) codesB) (s.map fun c => .str (so [c])) (codesS S0 ls rs nm k c5 c6 (h0 ++ g)) = .ok .nx (codesS S0 ls rs' nm' k' c5' c6' (h0 ++ g')) ∧ Sk h0.length 1000 (h0 ++ g') rs' st') ∨
    (fc st nm rest s = none ∧ ∃ g', PL.forM (fun x => PL.bind (G.put (.nm 5) (.d x)) fun _ => Sts.ex (prog.ctx n) codesB) (s.map fun c => .str (so [c])) (codesS S0 ls rs nm k c5 c6 (h0 ++ g)) = .ex 1 (h0 ++ g'))
  | [], st, nm, rest, k, rs, g, c5, c6, hS, h1, h2, h3, h4 => by
    left
    exact ⟨st, nm, rest, k, rs, g, c5, c6, rfl, rfl, hS⟩
  | c :: s, st, nm, rest, k, rs, g, c5, c6, hS, h1, h2, h3, h4 => by
    have hll := hS.len
    rw [List.length_cons] at h1 h2 hS
    have step : ∀ s', (PL.bind (G.put (.nm 5) (.d (.str (so [c])))) fun _ => Sts.ex (prog.ctx n) codesB) (codesS S0 ls rs nm k c5 c6 (h0 ++ g)) = .ok .nx s' → PL.forM (fun x => PL.bind (G.put (.nm 5) (.d x)) fun _ => Sts.ex (prog.ctx n) codesB) ((c :: s).map fun c => .str (so [c])) (codesS S0 ls rs nm k c5 c6 (h0 ++ g)) = PL.forM (fun x => PL.bind (G.put (.nm 5) (.d x)) fun _ => Sts.ex (prog.ctx n) codesB) (s.map fun c => .str (so [c])) s' := by
      intro s' e
      rw [List.map_cons]
      show PL.bind (PL.bind (G.put (.nm 5) (.d (.str (so [c])))) fun _ => Sts.ex (prog.ctx n) codesB) _ _ = _
      rw [PL.bind, e]
    have stop : ∀ g', (PL.bind (G.put (.nm 5) (.d (.str (so [c])))) fun _ => Sts.ex (prog.ctx n) codesB) (codesS S0 ls rs nm k c5 c6 (h0 ++ g)) = .ex 1 g' → PL.forM (fun x => PL.bind (G.put (.nm 5) (.d x)) fun _ => Sts.ex (prog.ctx n) codesB) ((c :: s).map fun c => .str (so [c])) (codesS S0 ls rs nm k c5 c6 (h0 ++ g)) = .ex 1 g' := by
      intro g' e
      rw [List.map_cons]
      show PL.bind (PL.bind (G.put (.nm 5) (.d (.str (so [c])))) fun _ => Sts.ex (prog.ctx n) codesB) _ _ = _
      rw [PL.bind, e]
    by_cases hc : c = 40
    · subst hc
      cases rest with
      | nil =>
        right
        have hk : (ls.length : Int) ≤ k := by
          have := List.drop_eq_nil_iff.mp h4
          omega
        refine ⟨rfl, g, stop _ ?_⟩
        unfold codesB codesS
        simp (disch := first | omega | simp) [PL.ev_var, PL.ev_mv, PL.ev_pop, PL.ev_cst, PL.ev_tup, PL.ev_lst, PL.ev_hlst, PL.ev_hdict, PL.ev_prim, PL.ev_and, PL.ev_or, PL.ev_not, PL.ev_ite, PL.ev_chain, PL.ev_call, PL.evs_nil, PL.evs_cons, PL.avs_nil, PL.avs_cons, PL.src_of, PL.src_range, PL.src_range2, PL.st_asg_, PL.st_swap_, PL.st_aug_, PL.st_append_, PL.st_hput_, PL.st_happend_, PL.st_expr_, PL.st_if_, PL.st_ret_, PL.st_raise_, PL.st_freeze_, PL.sts_nil, PL.sts_cons, PL.avOf, PL.bind, PL.ret, PL.see, PL.lift, PL.fail, PL.slot, PL.setSl, PL.needD, PL.truthAv, PL.truth, PL.test, PL.runP, PL.gets, PL.Av.get, PL.P.run, PL.addT, PL.G.put, PL.G.puts, PL.Prog.ctx, PL.walkAv, PL.walkOf, PL.wipe, PL.Def.start, PL.Def.run, PL.isOl, PL.isLref, PL.so_lit, PL.so_nil, PL.so_app, PL.so_len, PL.ite_big, PL.ite_bigN, eq_str, so_beq, lenT_so, cmpI, blT, hk]
      | cons x rest =>
        have hk : ¬ (ls.length : Int) ≤ k := by
          have := congrArg List.length h4
          rw [List.length_drop, List.length_cons] at this
          omega
        have hd : ls.drop (k + 1) = rest := by
          rw [← List.drop_drop, h4]
          rfl
        have hS' : Sk h0.length (1000 - s.length) (h0 ++ (g ++ [.lst []])) ((h0 ++ g).length :: rs) ([] :: st) := by
          rw [← List.append_assoc]
          exact .cons (by simp) hS.lt (by simp [trDs]) (Nat.zero_le _) (hS.app (by omega))
        have e1 := step (codesS S0 ls ((h0 ++ g).length :: rs) (x :: nm) (k + 1) (some (.d (.str (so [40])))) c6 (h0 ++ (g ++ [.lst []]))) (by
          have hz := idxZ_at h4 (by omega)
          have b1 : (zf nm).length < big := by rw [zf_len]; rw [big_eq]; omega
          have b2 : (rf rs).length < big := by rw [rf_len]; rw [big_eq]; omega
          unfold codesB codesS
          simp (disch := first | omega | simp) [PL.ev_var, PL.ev_mv, PL.ev_pop, PL.ev_cst, PL.ev_tup, PL.ev_lst, PL.ev_hlst, PL.ev_hdict, PL.ev_prim, PL.ev_and, PL.ev_or, PL.ev_not, PL.ev_ite, PL.ev_chain, PL.ev_call, PL.evs_nil, PL.evs_cons, PL.avs_nil, PL.avs_cons, PL.src_of, PL.src_range, PL.src_range2, PL.st_asg_, PL.st_swap_, PL.st_aug_, PL.st_append_, PL.st_hput_, PL.st_happend_, PL.st_expr_, PL.st_if_, PL.st_ret_, PL.st_raise_, PL.st_freeze_, PL.sts_nil, PL.sts_cons, PL.avOf, PL.bind, PL.ret, PL.see, PL.lift, PL.fail, PL.slot, PL.setSl, PL.needD, PL.truthAv, PL.truth, PL.test, PL.runP, PL.gets, PL.Av.get, PL.P.run, PL.addT, PL.G.put, PL.G.puts, PL.Prog.ctx, PL.walkAv, PL.walkOf, PL.wipe, PL.Def.start, PL.Def.run, PL.isOl, PL.isLref, PL.so_lit, PL.so_nil, PL.so_app, PL.so_len, PL.ite_big, PL.ite_bigN, eq_str, so_beq, lenT_so, cmpI, blT, hk, idxT, hz, augT, rf_cons, zf_cons, b1, b2])
        rcases codes_loop hls s _ (x :: nm) rest (k + 1) _ (g ++ [.lst []]) (some (.d (.str (so [40])))) c6 hS' (by rw [List.length_cons]; omega) (by rw [List.length_cons]; omega) (by rw [List.length_cons, List.length_cons]; omega) hd with ⟨st', nm', rest', k', rs', g', c5', c6', f1, f2, f3⟩ | ⟨f1, g', f2⟩
        · left
          refine ⟨st', nm', rest', k', rs', g', c5', c6', ?_, ?_, f3⟩
          · rw [fc_op]
            exact f1
          · rw [e1]
            exact f2
        · right
          refine ⟨?_, g', ?_⟩
          · rw [fc_op]
            exact f1
          · rw [e1]
            exact f2
    · by_cases hc2 : c = 41
      · subst hc2
        cases hS with
        | nil => simp at h3
        | @cons r rs a st p1 p2 p3 p4 k1 =>
          cases k1 with
          | nil =>
            right
            refine ⟨rfl, g, stop _ ?_⟩
            have hl1 : (rf [r]).length = 1 := rfl
            unfold codesB codesS
            simp (disch := first | omega | simp) [PL.ev_var, PL.ev_mv, PL.ev_pop, PL.ev_cst, PL.ev_tup, PL.ev_lst, PL.ev_hlst, PL.ev_hdict, PL.ev_prim, PL.ev_and, PL.ev_or, PL.ev_not, PL.ev_ite, PL.ev_chain, PL.ev_call, PL.evs_nil, PL.evs_cons, PL.avs_nil, PL.avs_cons, PL.src_of, PL.src_range, PL.src_range2, PL.st_asg_, PL.st_swap_, PL.st_aug_, PL.st_append_, PL.st_hput_, PL.st_happend_, PL.st_expr_, PL.st_if_, PL.st_ret_, PL.st_raise_, PL.st_freeze_, PL.sts_nil, PL.sts_cons, PL.avOf, PL.bind, PL.ret, PL.see, PL.lift, PL.fail, PL.slot, PL.setSl, PL.needD, PL.truthAv, PL.truth, PL.test, PL.runP, PL.gets, PL.Av.get, PL.P.run, PL.addT, PL.G.put, PL.G.puts, PL.Prog.ctx, PL.walkAv, PL.walkOf, PL.wipe, PL.Def.start, PL.Def.run, PL.isOl, PL.isLref, PL.so_lit, PL.so_nil, PL.so_app, PL.so_len, PL.ite_big, PL.ite_bigN, eq_str, so_beq, lenT_ol, hl1, cmpI, blT]
          | @cons q rs b st q1 q2 q3 q4 k2 =>
            cases nm with
            | nil => simp at h3
            | cons x nm =>
              have hqr : q < r := p2 q List.mem_cons_self
              have hql : q < (h0 ++ g).length := (List.getElem?_eq_some_iff.mp q3).1
              obtain ⟨g', hg'⟩ := set_pre (g := g) (o := .lst (trDs (b ++ [.mk x a]))) q1
              have hS' : Sk h0.length (1000 - s.length) (h0 ++ g') (q :: rs) ((b ++ [.mk x a]) :: st) := by
                rw [← hg']
                have hsl := h1
                refine .cons q1 q2 ?_ ?_ (k2.set (by omega) q2)
                · rw [List.getElem?_set_self hql]
                · rw [List.length_append]
                  show b.length + 1 ≤ _
                  rw [List.length_cons] at h1
                  omega
              have e1 := step (codesS S0 ls (q :: rs) nm k (some (.d (.str (so [41])))) (some (.d (.tup (trDs a)))) (h0 ++ g')) (by
                have hl1 : (1 : Int) < ((rf rs).length : Int) + 2 := by omega
                have e5 : trDs (b ++ [.mk x a]) = trDs b ++ [.tup [.str (so [x]), .tup (trDs a)]] := by
                  rw [trDs_app]
                  rfl
                have e6 : rf (r :: q :: rs) = rf (q :: rs) ++ [.ref r] := rf_cons _ _
                have e7 : rf (q :: rs) = rf rs ++ [.ref q] := rf_cons _ _
                have e8 : zf (x :: nm) = zf nm ++ [.str (so [x])] := zf_cons _ _
                have b1 : (trDs b).length < big := by rw [trDs_len]; rw [big_eq]; omega
                rw [← hg', e5]
                revert p3 q3
                generalize h0 ++ g = H
                intro p3 q3
                unfold codesB codesS
                simp (disch := first | omega | simp) [PL.ev_var, PL.ev_mv, PL.ev_pop, PL.ev_cst, PL.ev_tup, PL.ev_lst, PL.ev_hlst, PL.ev_hdict, PL.ev_prim, PL.ev_and, PL.ev_or, PL.ev_not, PL.ev_ite, PL.ev_chain, PL.ev_call, PL.evs_nil, PL.evs_cons, PL.avs_nil, PL.avs_cons, PL.src_of, PL.src_range, PL.src_range2, PL.st_asg_, PL.st_swap_, PL.st_aug_, PL.st_append_, PL.st_hput_, PL.st_happend_, PL.st_expr_, PL.st_if_, PL.st_ret_, PL.st_raise_, PL.st_freeze_, PL.sts_nil, PL.sts_cons, PL.avOf, PL.bind, PL.ret, PL.see, PL.lift, PL.fail, PL.slot, PL.setSl, PL.needD, PL.truthAv, PL.truth, PL.test, PL.runP, PL.gets, PL.Av.get, PL.P.run, PL.addT, PL.G.put, PL.G.puts, PL.Prog.ctx, PL.walkAv, PL.walkOf, PL.wipe, PL.Def.start, PL.Def.run, PL.isOl, PL.isLref, PL.so_lit, PL.so_nil, PL.so_app, PL.so_len, PL.ite_big, PL.ite_bigN, eq_str, so_beq, lenT_ol, hl1, cmpI, blT, tupT, seqOf, lstOf, e6, e7, e8, p3, q3, idxT, idx_last, b1])
              rcases codes_loop hls s _ nm rest k _ g' (some (.d (.str (so [41])))) (some (.d (.tup (trDs a)))) hS' (by rw [List.length_cons] at h1; omega) (by rw [List.length_cons, List.length_cons] at h2; rw [List.length_cons]; omega) (by simpa using h3) h4 with ⟨st', nm', rest', k', rs', g'', c5', c6', f1, f2, f3⟩ | ⟨f1, g'', f2⟩
              · left
                refine ⟨st', nm', rest', k', rs', g'', c5', c6', ?_, ?_, f3⟩
                · rw [fc_cl]
                  exact f1
                · rw [e1]
                  exact f2
              · right
                refine ⟨?_, g'', ?_⟩
                · rw [fc_cl]
                  exact f1
                · rw [e1]
                  exact f2
      · right
        refine ⟨by unfold fc; rw [if_neg hc, if_neg hc2], g, stop _ ?_⟩
        unfold codesB codesS
        simp (disch := first | omega | simp) [PL.ev_var, PL.ev_mv, PL.ev_pop, PL.ev_cst, PL.ev_tup, PL.ev_lst, PL.ev_hlst, PL.ev_hdict, PL.ev_prim, PL.ev_and, PL.ev_or, PL.ev_not, PL.ev_ite, PL.ev_chain, PL.ev_call, PL.evs_nil, PL.evs_cons, PL.avs_nil, PL.avs_cons, PL.src_of, PL.src_range, PL.src_range2, PL.st_asg_, PL.st_swap_, PL.st_aug_, PL.st_append_, PL.st_hput_, PL.st_happend_, PL.st_expr_, PL.st_if_, PL.st_ret_, PL.st_raise_, PL.st_freeze_, PL.sts_nil, PL.sts_cons, PL.avOf, PL.bind, PL.ret, PL.see, PL.lift, PL.fail, PL.slot, PL.setSl, PL.needD, PL.truthAv, PL.truth, PL.test, PL.runP, PL.gets, PL.Av.get, PL.P.run, PL.addT, PL.G.put, PL.G.puts, PL.Prog.ctx, PL.walkAv, PL.walkOf, PL.wipe, PL.Def.start, PL.Def.run, PL.isOl, PL.isLref, PL.so_lit, PL.so_nil, PL.so_app, PL.so_len, PL.ite_big, PL.ite_bigN, eq_str, so_beq, hc, hc2, blT]
theorem rd_none {ls s : List Nat} (h : fc [[]] [] ls s = none) : rd ls s = none := by
  unfold rd
  rw [h]
  split <;> rfl
theorem len_codes {ls s : List Nat} : ((s.length : Int) = 2 * (ls.length : Int)) ↔ s.length = 2 * ls.length := by omega
theorem call_codes {n : Nat} {ls s : List Nat} {h : Hs} (hls : ls.length ≤ 500) (hs : s.length ≤ 500) :
    (∃ ts g, rd ls s = some ts ∧ prog.call (n + 1) 2 [.str (so s), .str (so ls)] h = .ok (.d (.tup (trDs ts))) ⟨[], h ++ g⟩) ∨ (rd ls s = none ∧ ∃ g, prog.call (n + 1) 2 [.str (so s), .str (so ls)] h = .ex 1 (h ++ g)) := by
  have sh : prog.call (n + 1) 2 [.str (so s), .str (so ls)] h = c_from_codes.run (prog.ctx n) [.str (so s), .str (so ls)] h := rfl
  rw [sh]
  by_cases hl : s.length = 2 * ls.length
  · have hl' : (s.length : Int) = 2 * (ls.length : Int) := by omega
    have loop := codes_loop (n := n) (S0 := s) (ls := ls) (h0 := h) (by omega) s [[]] [] ls 0 [h.length] [.lst []] none none (.cons (Nat.le_refl _) (by simp) (by simp [trDs]) (Nat.zero_le _) .nil) (by simp; omega) (by simp; omega) rfl rfl
    rcases loop with ⟨st', nm', rest', k', rs', g', c5', c6', f1, f2, f3⟩ | ⟨f1, g', f2⟩
    · have hw : PL.St.ex (prog.ctx n) (.for_ (.nm 5) (.of (.var 0)) codesB) (codesS s ls [h.length] [] 0 none none (h ++ [.lst []])) = .ok .nx (codesS s ls rs' nm' k' c5' c6' (h ++ g')) := by
        have e : signsOf (so s) = s.map fun c => .str (so [c]) := by
          unfold signsOf so
          simp
        rw [← f2, ← e]
        rfl
      have hw2 := hw
      unfold codesB codesS at hw2
      simp only [PL.Prog.ctx, PL.so_lit] at hw2
      have hc1 : rf [h.length] = [.ref h.length] := rfl
      have hz1 : zf [] = [] := rfl
      have hk0 : ((0 : Nat) : Int) = 0 := rfl
      rw [hc1, hz1, hk0] at hw2
      cases f3 with
      | nil =>
        right
        refine ⟨by unfold rd; rw [f1]; split <;> rfl, g', ?_⟩
        have hr : rf [] = [] := rfl
        simp (disch := first | omega | simp) [PL.ev_var, PL.ev_mv, PL.ev_pop, PL.ev_cst, PL.ev_tup, PL.ev_lst, PL.ev_hlst, PL.ev_hdict, PL.ev_prim, PL.ev_and, PL.ev_or, PL.ev_not, PL.ev_ite, PL.ev_chain, PL.ev_call, PL.evs_nil, PL.evs_cons, PL.avs_nil, PL.avs_cons, PL.src_of, PL.src_range, PL.src_range2, PL.st_asg_, PL.st_swap_, PL.st_aug_, PL.st_append_, PL.st_hput_, PL.st_happend_, PL.st_expr_, PL.st_if_, PL.st_ret_, PL.st_raise_, PL.st_freeze_, PL.sts_nil, PL.sts_cons, PL.avOf, PL.bind, PL.ret, PL.see, PL.lift, PL.fail, PL.slot, PL.setSl, PL.needD, PL.truthAv, PL.truth, PL.test, PL.runP, PL.gets, PL.Av.get, PL.P.run, PL.addT, PL.G.put, PL.G.puts, PL.Prog.ctx, PL.walkAv, PL.walkOf, PL.wipe, PL.Def.start, PL.Def.run, PL.isOl, PL.isLref, PL.so_lit, PL.so_nil, PL.so_app, PL.so_len, PL.ite_big, PL.ite_bigN, c_from_codes, lenT_so, mul_2x, eq_int, blT, hl', List.replicate, hw2, lenT_ol, hr]
      | @cons r rs a st p1 p2 p3 p4 k1 =>
        cases k1 with
        | nil =>
          left
          refine ⟨a, g', ?_, ?_⟩
          · unfold rd
            rw [if_pos hl, f1]
          · have hr : rf [r] = [.ref r] := rfl
            have hi : ∀ h : Hs, idxL h (.ol [.ref r]) 0 = some (.d (.ref r)) := fun _ => rfl
            simp (disch := first | omega | simp) [PL.ev_var, PL.ev_mv, PL.ev_pop, PL.ev_cst, PL.ev_tup, PL.ev_lst, PL.ev_hlst, PL.ev_hdict, PL.ev_prim, PL.ev_and, PL.ev_or, PL.ev_not, PL.ev_ite, PL.ev_chain, PL.ev_call, PL.evs_nil, PL.evs_cons, PL.avs_nil, PL.avs_cons, PL.src_of, PL.src_range, PL.src_range2, PL.st_asg_, PL.st_swap_, PL.st_aug_, PL.st_append_, PL.st_hput_, PL.st_happend_, PL.st_expr_, PL.st_if_, PL.st_ret_, PL.st_raise_, PL.st_freeze_, PL.sts_nil, PL.sts_cons, PL.avOf, PL.bind, PL.ret, PL.see, PL.lift, PL.fail, PL.slot, PL.setSl, PL.needD, PL.truthAv, PL.truth, PL.test, PL.runP, PL.gets, PL.Av.get, PL.P.run, PL.addT, PL.G.put, PL.G.puts, PL.Prog.ctx, PL.walkAv, PL.walkOf, PL.wipe, PL.Def.start, PL.Def.run, PL.isOl, PL.isLref, PL.so_lit, PL.so_nil, PL.so_app, PL.so_len, PL.ite_big, PL.ite_bigN, c_from_codes, lenT_so, mul_2x, eq_int, blT, hl', List.replicate, hw2, lenT_ol, hr, idxT, hi, tupT, seqOf, lstOf, p3]
        | @cons q rs b st q1 q2 q3 q4 k2 =>
          right
          refine ⟨by unfold rd; rw [f1]; split <;> rfl, g', ?_⟩
          have hr : ¬ ((rf (r :: q :: rs)).length : Int) = 1 := by
            rw [rf_len]
            simp
            omega
          simp (disch := first | omega | simp) [PL.ev_var, PL.ev_mv, PL.ev_pop, PL.ev_cst, PL.ev_tup, PL.ev_lst, PL.ev_hlst, PL.ev_hdict, PL.ev_prim, PL.ev_and, PL.ev_or, PL.ev_not, PL.ev_ite, PL.ev_chain, PL.ev_call, PL.evs_nil, PL.evs_cons, PL.avs_nil, PL.avs_cons, PL.src_of, PL.src_range, PL.src_range2, PL.st_asg_, PL.st_swap_, PL.st_aug_, PL.st_append_, PL.st_hput_, PL.st_happend_, PL.st_expr_, PL.st_if_, PL.st_ret_, PL.st_raise_, PL.st_freeze_, PL.sts_nil, PL.sts_cons, PL.avOf, PL.bind, PL.ret, PL.see, PL.lift, PL.fail, PL.slot, PL.setSl, PL.needD, PL.truthAv, PL.truth, PL.test, PL.runP, PL.gets, PL.Av.get, PL.P.run, PL.addT, PL.G.put, PL.G.puts, PL.Prog.ctx, PL.walkAv, PL.walkOf, PL.wipe, PL.Def.start, PL.Def.run, PL.isOl, PL.isLref, PL.so_lit, PL.so_nil, PL.so_app, PL.so_len, PL.ite_big, PL.ite_bigN, c_from_codes, lenT_so, mul_2x, eq_int, blT, hl', List.replicate, hw2, lenT_ol, hr]
    · right
      have hw : PL.St.ex (prog.ctx n) (.for_ (.nm 5) (.of (.var 0)) codesB) (codesS s ls [h.length] [] 0 none none (h ++ [.lst []])) = .ex 1 (h ++ g') := by
        have e : signsOf (so s) = s.map fun c => .str (so [c]) := by
          unfold signsOf so
          simp
        rw [← f2, ← e]
        rfl
      have hw2 := hw
      unfold codesB codesS at hw2
      simp only [PL.Prog.ctx, PL.so_lit] at hw2
      have hc1 : rf [h.length] = [.ref h.length] := rfl
      have hz1 : zf [] = [] := rfl
      have hk0 : ((0 : Nat) : Int) = 0 := rfl
      rw [hc1, hz1, hk0] at hw2
      refine ⟨rd_none f1, g', ?_⟩
      simp (disch := first | omega | simp) [PL.ev_var, PL.ev_mv, PL.ev_pop, PL.ev_cst, PL.ev_tup, PL.ev_lst, PL.ev_hlst, PL.ev_hdict, PL.ev_prim, PL.ev_and, PL.ev_or, PL.ev_not, PL.ev_ite, PL.ev_chain, PL.ev_call, PL.evs_nil, PL.evs_cons, PL.avs_nil, PL.avs_cons, PL.src_of, PL.src_range, PL.src_range2, PL.st_asg_, PL.st_swap_, PL.st_aug_, PL.st_append_, PL.st_hput_, PL.st_happend_, PL.st_expr_, PL.st_if_, PL.st_ret_, PL.st_raise_, PL.st_freeze_, PL.sts_nil, PL.sts_cons, PL.avOf, PL.bind, PL.ret, PL.see, PL.lift, PL.fail, PL.slot, PL.setSl, PL.needD, PL.truthAv, PL.truth, PL.test, PL.runP, PL.gets, PL.Av.get, PL.P.run, PL.addT, PL.G.put, PL.G.puts, PL.Prog.ctx, PL.walkAv, PL.walkOf, PL.wipe, PL.Def.start, PL.Def.run, PL.isOl, PL.isLref, PL.so_lit, PL.so_nil, PL.so_app, PL.so_len, PL.ite_big, PL.ite_bigN, c_from_codes, lenT_so, mul_2x, eq_int, blT, hl', List.replicate, hw2]
  · right
    have hl' : ¬ (s.length : Int) = 2 * (ls.length : Int) := by omega
    refine ⟨by unfold rd; rw [if_neg hl], [], ?_⟩
    simp (disch := first | omega | simp) [PL.ev_var, PL.ev_mv, PL.ev_pop, PL.ev_cst, PL.ev_tup, PL.ev_lst, PL.ev_hlst, PL.ev_hdict, PL.ev_prim, PL.ev_and, PL.ev_or, PL.ev_not, PL.ev_ite, PL.ev_chain, PL.ev_call, PL.evs_nil, PL.evs_cons, PL.avs_nil, PL.avs_cons, PL.src_of, PL.src_range, PL.src_range2, PL.st_asg_, PL.st_swap_, PL.st_aug_, PL.st_append_, PL.st_hput_, PL.st_happend_, PL.st_expr_, PL.st_if_, PL.st_ret_, PL.st_raise_, PL.st_freeze_, PL.sts_nil, PL.sts_cons, PL.avOf, PL.bind, PL.ret, PL.see, PL.lift, PL.fail, PL.slot, PL.setSl, PL.needD, PL.truthAv, PL.truth, PL.test, PL.runP, PL.gets, PL.Av.get, PL.P.run, PL.addT, PL.G.put, PL.G.puts, PL.Prog.ctx, PL.walkAv, PL.walkOf, PL.wipe, PL.Def.start, PL.Def.run, PL.isOl, PL.isLref, PL.so_lit, PL.so_nil, PL.so_app, PL.so_len, PL.ite_big, PL.ite_bigN, c_from_codes, lenT_so, mul_2x, eq_int, blT, hl']
end K55
end
section
set_option linter.all false
set_option maxRecDepth 100000
set_option maxHeartbeats 4000000
/-! M55g: k55 in plain Lean: ballots. -/
namespace K55
open PySem PL
theorem forM_up {f : D → M O} {I : Nat → S → Prop} {b : Nat} : ∀ (k i : Nat) (s : S), (∀ j s, i ≤ j → j < b → I j s → ∃ s', f (.int (j : Int)) s = .ok .nx s' ∧ I (j + 1) s') → i + k = b → I i s → ∃ s', PL.forM f (upI (i : Int) k) s = .ok .nx s' ∧ I b s'
  | 0, i, s, hs, h, hI => ⟨s, rfl, by rw [← h]; exact hI⟩
  | k + 1, i, s, hs, h, hI => by
    obtain ⟨s1, e1, h1⟩ := hs i s (Nat.le_refl _) (by omega) hI
    obtain ⟨s2, e2, h2⟩ := forM_up k (i + 1) s1 (fun j s h1 h2 h3 => hs j s (by omega) h2 h3) (by omega) h1
    refine ⟨s2, ?_, h2⟩
    show PL.bind (f (.int (i : Int))) _ s = _
    unfold PL.bind
    rw [e1]
    have e : ((i : Int) + 1) = ((i + 1 : Nat) : Int) := by omega
    rw [e]
    exact e2
theorem repD_one (x : D) : ∀ n, repD [x] n = List.replicate n x
  | 0 => rfl
  | n + 1 => by
    show [x] ++ repD [x] n = _
    rw [repD_one x n, List.replicate_succ]
    rfl
theorem range_sn (n : Nat) (f : Nat → D) : (List.range (n + 1)).map f = (List.range n).map f ++ [f n] := by
  rw [List.range_succ, List.map_append]
  rfl
/-- a row of the table -/
def Rw (o l j : Nat) : List D := if j = 0 then List.replicate (o + 2 * l + 2) (.int 1) else ((List.range (o + l - j + 1)).map fun d => .int (B d j : Nat)) ++ List.replicate (o + 2 * l + 2 - (o + l - j + 1)) (.int 0)
theorem Rw_at {o l j d : Nat} (hd : d ≤ o + l - j) : (Rw o l j)[d]? = some (.int (B d j : Nat)) := by
  unfold Rw
  by_cases h : j = 0
  · subst h
    rw [if_pos rfl, List.getElem?_replicate, if_pos (by omega)]
    have : B d 0 = 1 := by simp [B]
    rw [this]
    rfl
  · rw [if_neg h, List.getElem?_append_left (by simp; omega), List.getElem?_map, List.getElem?_range (by omega)]
    rfl
theorem B_step (d j : Nat) (hj : 0 < j) : B d j = B (d + 1) (j - 1) + if 0 < d then B (d - 1) j else 0 := by
  cases j with
  | zero => omega
  | succ j =>
    cases d with
    | zero =>
      rw [B.eq_2, if_neg (by omega)]
      rfl
    | succ d =>
      rw [B.eq_3, if_pos (by omega)]
      rfl
theorem idx_lst {h : Hs} {xs : List D} {i : Nat} {v : D} (e : xs[i]? = some v) : idxL h (.d (.lst xs)) (i : Int) = some (.d v) := by
  show (match L2.atI xs (i : Int) with
    | some v => some (T.d v)
    | none => none) = _
  rw [L2.atI_nat e]
theorem idx_ol {h : Hs} {xs : List D} {i : Nat} {v : D} (e : xs[i]? = some v) : idxL h (.ol xs) (i : Int) = some (.d v) := by
  show (match L2.atI xs (i : Int) with
    | some v => some (T.d v)
    | none => none) = _
  rw [L2.atI_nat e]
theorem lenT_lst {h : Hs} {xs : List D} : lenT h (.d (.lst xs)) = some (.d (.int xs.length)) := rfl
def innB : List PL.St := [.asg (.nm 8) (.prim .add [.prim .idx [.var 5, .prim .add [.var 7, .cst (.int 1)]], .ite (.prim .gt [.var 7, .cst (.int 0)]) (.prim .idx [.var 6, .prim .sub [.var 7, .cst (.int 1)]]) (.cst (.int 0))]), .append 6 (.var 8)]
def outB : List PL.St := [.asg (.nm 5) (.prim .idx [.var 3, .prim .neg [.cst (.int 1)]]), .asg (.nm 6) (.lst []), .for_ (.nm 7) (.range (.prim .add [.prim .sub [.prim .add [.var 0, .var 1], .var 4], .cst (.int 1)])) innB, .append 3 (.prim .add [.var 6, .prim .mul [.lst [.cst (.int 0)], .prim .sub [.prim .len [.var 2], .prim .len [.var 6]]]])]
def fr (j d : Nat) : List D := (List.range d).map fun d => .int (B d j : Nat)
theorem fr_len (j d : Nat) : (fr j d).length = d := by simp [fr]
def tb (o l j : Nat) : List D := (List.range j).map fun i => .lst (Rw o l i)
theorem tb_len (o l j : Nat) : (tb o l j).length = j := by simp [tb]
def balS (o l j : Nat) (i : Int) (c5 : Option T) (fs : Option T) (c7 c8 : Option T) (h : Hs) : S := ⟨[some (.d (.int (o : Int))), some (.d (.int (l : Int))), some (.d (.lst (Rw o l 0))), some (.ol (tb o l j)), some (.d (.int i)), c5, fs, c7, c8], h⟩
theorem inner_loop {n o l j : Nat} {h : Hs} {c7 c8 : Option T} (hj : 0 < j) (hjl : j ≤ l) (hb : o + 2 * l ≤ 1000) :
    ∃ c7' c8', PL.St.ex (prog.ctx n) (.for_ (.nm 7) (.range (.prim .add [.prim .sub [.prim .add [.var 0, .var 1], .var 4], .cst (.int 1)])) innB) (balS o l j j (some (.d (.lst (Rw o l (j - 1))))) (some (.ol [])) c7 c8 h) = .ok .nx (balS o l j j (some (.d (.lst (Rw o l (j - 1))))) (some (.ol (fr j (o + l - j + 1)))) c7' c8' h) := by
  have go := forM_up (f := fun x => PL.bind (G.put (.nm 7) (.d x)) fun _ => Sts.ex (prog.ctx n) innB) (b := o + l - j + 1)
    (I := fun d s => ∃ c7 c8, s = balS o l j j (some (.d (.lst (Rw o l (j - 1))))) (some (.ol (fr j d))) c7 c8 h) (o + l - j + 1) 0 (balS o l j j (some (.d (.lst (Rw o l (j - 1))))) (some (.ol [])) c7 c8 h)
    (fun d s h1 h2 hI => by
      obtain ⟨c7, c8, rfl⟩ := hI
      have ho := @idx_lst h (Rw o l (j - 1)) (d + 1) _ (Rw_at (by omega))
      have hB := B_step d j hj
      have hf : fr j (d + 1) = fr j d ++ [.int (B d j : Nat)] := range_sn d _
      have hbl : (fr j d).length < big := by rw [fr_len]; rw [big_eq]; omega
      have ec : ((d + 1 : Nat) : Int) = (d : Int) + 1 := by omega
      rw [ec] at ho
      by_cases h0 : 0 < d
      · rw [if_pos h0] at hB
        have hI := @idx_ol h (fr j d) (d - 1) (.int (B (d - 1) j : Nat)) (by
          unfold fr
          rw [List.getElem?_map, List.getElem?_range (by omega)]
          rfl)
        have ec2 : ((d - 1 : Nat) : Int) = (d : Int) - 1 := by omega
        rw [ec2] at hI
        have e3 : ((B d j : Nat) : Int) = (B (d + 1) (j - 1) : Nat) + (B (d - 1) j : Nat) := by omega
        have h0' : (0 : Int) < d := by omega
        refine ⟨balS o l j j (some (.d (.lst (Rw o l (j - 1))))) (some (.ol (fr j (d + 1)))) (some (.d (.int d))) (some (.d (.int (B d j : Nat)))) h, ?_, _, _, rfl⟩
        rw [hf, e3]
        unfold innB balS
        simp (disch := first | omega | simp) [PL.ev_var, PL.ev_mv, PL.ev_pop, PL.ev_cst, PL.ev_tup, PL.ev_lst, PL.ev_hlst, PL.ev_hdict, PL.ev_prim, PL.ev_and, PL.ev_or, PL.ev_not, PL.ev_ite, PL.ev_chain, PL.ev_call, PL.evs_nil, PL.evs_cons, PL.avs_nil, PL.avs_cons, PL.src_of, PL.src_range, PL.src_range2, PL.st_asg_, PL.st_swap_, PL.st_aug_, PL.st_append_, PL.st_hput_, PL.st_happend_, PL.st_expr_, PL.st_if_, PL.st_ret_, PL.st_raise_, PL.st_freeze_, PL.sts_nil, PL.sts_cons, PL.avOf, PL.bind, PL.ret, PL.see, PL.lift, PL.fail, PL.slot, PL.setSl, PL.needD, PL.truthAv, PL.truth, PL.test, PL.runP, PL.gets, PL.Av.get, PL.P.run, PL.addT, PL.G.put, PL.G.puts, PL.Prog.ctx, PL.walkAv, PL.walkOf, PL.wipe, PL.Def.start, PL.Def.run, PL.isOl, PL.isLref, PL.so_lit, PL.so_nil, PL.so_app, PL.so_len, PL.ite_big, PL.ite_bigN, idxT, ho, cmpI, opI, h0, h0', hI, hbl]
      · rw [if_neg h0] at hB
        have h0' : ¬ (0 : Int) < d := by omega
        have e3 : ((B d j : Nat) : Int) = (B (d + 1) (j - 1) : Nat) := by omega
        refine ⟨balS o l j j (some (.d (.lst (Rw o l (j - 1))))) (some (.ol (fr j (d + 1)))) (some (.d (.int d))) (some (.d (.int (B d j : Nat)))) h, ?_, _, _, rfl⟩
        rw [hf, e3]
        unfold innB balS
        simp (disch := first | omega | simp) [PL.ev_var, PL.ev_mv, PL.ev_pop, PL.ev_cst, PL.ev_tup, PL.ev_lst, PL.ev_hlst, PL.ev_hdict, PL.ev_prim, PL.ev_and, PL.ev_or, PL.ev_not, PL.ev_ite, PL.ev_chain, PL.ev_call, PL.evs_nil, PL.evs_cons, PL.avs_nil, PL.avs_cons, PL.src_of, PL.src_range, PL.src_range2, PL.st_asg_, PL.st_swap_, PL.st_aug_, PL.st_append_, PL.st_hput_, PL.st_happend_, PL.st_expr_, PL.st_if_, PL.st_ret_, PL.st_raise_, PL.st_freeze_, PL.sts_nil, PL.sts_cons, PL.avOf, PL.bind, PL.ret, PL.see, PL.lift, PL.fail, PL.slot, PL.setSl, PL.needD, PL.truthAv, PL.truth, PL.test, PL.runP, PL.gets, PL.Av.get, PL.P.run, PL.addT, PL.G.put, PL.G.puts, PL.Prog.ctx, PL.walkAv, PL.walkOf, PL.wipe, PL.Def.start, PL.Def.run, PL.isOl, PL.isLref, PL.so_lit, PL.so_nil, PL.so_app, PL.so_len, PL.ite_big, PL.ite_bigN, idxT, ho, cmpI, opI, h0, h0', hbl])
    (by omega) ⟨c7, c8, rfl⟩
  obtain ⟨s', e, c7', c8', rfl⟩ := go
  refine ⟨c7', c8', ?_⟩
  have en : ((o : Int) + l - j + 1 - 0).toNat = o + l - j + 1 := by omega
  have er : rangeT (.d (.int 0)) (.d (.int ((o : Int) + l - j + 1))) = some (upI 0 (o + l - j + 1)) := by
    show (if -(big : Int) < 0 ∧ (0 : Int) < big ∧ -(big : Int) < (o : Int) + l - j + 1 ∧ (o : Int) + l - j + 1 < big then some (upI 0 ((o : Int) + l - j + 1 - 0).toNat) else none) = _
    rw [if_pos (by rw [big_eq]; omega), en]
  rw [← e]
  unfold balS
  simp (disch := first | omega | simp) [PL.ev_var, PL.ev_mv, PL.ev_pop, PL.ev_cst, PL.ev_tup, PL.ev_lst, PL.ev_hlst, PL.ev_hdict, PL.ev_prim, PL.ev_and, PL.ev_or, PL.ev_not, PL.ev_ite, PL.ev_chain, PL.ev_call, PL.evs_nil, PL.evs_cons, PL.avs_nil, PL.avs_cons, PL.src_of, PL.src_range, PL.src_range2, PL.st_asg_, PL.st_swap_, PL.st_aug_, PL.st_append_, PL.st_hput_, PL.st_happend_, PL.st_expr_, PL.st_if_, PL.st_ret_, PL.st_raise_, PL.st_freeze_, PL.sts_nil, PL.sts_cons, PL.avOf, PL.bind, PL.ret, PL.see, PL.lift, PL.fail, PL.slot, PL.setSl, PL.needD, PL.truthAv, PL.truth, PL.test, PL.runP, PL.gets, PL.Av.get, PL.P.run, PL.addT, PL.G.put, PL.G.puts, PL.Prog.ctx, PL.walkAv, PL.walkOf, PL.wipe, PL.Def.start, PL.Def.run, PL.isOl, PL.isLref, PL.so_lit, PL.so_nil, PL.so_app, PL.so_len, PL.ite_big, PL.ite_bigN, PL.st_for_, opI, er]
def outS (o l j : Nat) (c4 c5 c6 c7 c8 : Option T) (h : Hs) : S := ⟨[some (.d (.int (o : Int))), some (.d (.int (l : Int))), some (.d (.lst (Rw o l 0))), some (.ol (tb o l j)), c4, c5, c6, c7, c8], h⟩
theorem Rw_len {o l j : Nat} : (Rw o l 0).length = o + 2 * l + 2 := by simp [Rw]
theorem mul_zero {h : Hs} {k : Int} {m : Nat} (hk : k = (m : Int)) (hm : m < 100000) : mulT h (.ol [.int 0]) (.d (.int k)) = some (.ol (List.replicate m (.int 0))) := by
  subst hk
  show (if [D.int 0].length * ((m : Int)).toNat < big ∧ (m : Int) < big ∧ -(big : Int) < (m : Int) then some (T.ol (repD [D.int 0] ((m : Int)).toNat)) else none) = _
  have e : ((m : Int)).toNat = m := by omega
  rw [e, if_pos (by rw [big_eq]; simp; omega), repD_one]
theorem add_ol {h : Hs} {xs ys : List D} (hl : xs.length + ys.length < big) : addT h (.ol xs) (.ol ys) = some (.ol (xs ++ ys)) := by
  show (if xs.length + ys.length < big then some (T.ol (xs ++ ys)) else none) = _
  rw [if_pos hl]
theorem outer_step {n o l j : Nat} {h : Hs} {c4 c5 c6 c7 c8 : Option T} (hj : 0 < j) (hjl : j ≤ l) (hb : o + 2 * l ≤ 1000) :
    ∃ c4' c5' c6' c7' c8', (PL.bind (G.put (.nm 4) (.d (.int (j : Int)))) fun _ => Sts.ex (prog.ctx n) outB) (outS o l j c4 c5 c6 c7 c8 h) = .ok .nx (outS o l (j + 1) c4' c5' c6' c7' c8' h) := by
  obtain ⟨c7', c8', hi⟩ := inner_loop (n := n) (h := h) (c7 := c7) (c8 := c8) hj hjl hb
  refine ⟨some (.d (.int (j : Int))), some (.d (.lst (Rw o l (j - 1)))), some (.ol (fr j (o + l - j + 1))), c7', c8', ?_⟩
  have et : tb o l j = tb o l (j - 1) ++ [.lst (Rw o l (j - 1))] := by
    have := range_sn (j - 1) fun i => D.lst (Rw o l i)
    have e : j - 1 + 1 = j := by omega
    rw [e] at this
    exact this
  have et2 : tb o l (j + 1) = tb o l j ++ [.lst (Rw o l j)] := range_sn j _
  have hr : Rw o l j = fr j (o + l - j + 1) ++ List.replicate (o + 2 * l + 2 - (o + l - j + 1)) (.int 0) := by
    unfold Rw
    rw [if_neg (by omega)]
    rfl
  have hlr : ((Rw o l 0).length : Int) - ((fr j (o + l - j + 1)).length : Int) = ((o + 2 * l + 2 - (o + l - j + 1) : Nat) : Int) := by
    rw [Rw_len (j := 0), fr_len]
    omega
  have hmz := mul_zero (h := h) hlr (by omega)
  have hb1 : (tb o l j).length < big := by rw [tb_len]; rw [big_eq]; omega
  have hadd := add_ol (h := h) (xs := fr j (o + l - j + 1)) (ys := List.replicate (o + 2 * l + 2 - (o + l - j + 1)) (.int 0)) (by rw [fr_len, List.length_replicate]; rw [big_eq]; omega)
  rw [← hr] at hadd
  have hlast : idxL h (.ol (tb o l j)) (-1) = some (.d (.lst (Rw o l (j - 1)))) := by
    rw [et]
    exact idx_last
  unfold outB outS
  rw [et2]
  unfold balS innB at hi
  unfold innB
  simp only [PL.Prog.ctx] at hi
  have hadd' : addL h (.ol (fr j (o + l - j + 1))) (.ol (List.replicate (o + 2 * l + 2 - (o + l - j + 1)) (.int 0))) = some (.ol (Rw o l j)) := hadd
  generalize o + 2 * l + 2 - (o + l - j + 1) = m at *
  generalize Rw o l j = R1 at *
  generalize tb o l j = R2 at *
  simp (disch := first | omega | simp) [PL.ev_var, PL.ev_mv, PL.ev_pop, PL.ev_cst, PL.ev_tup, PL.ev_lst, PL.ev_hlst, PL.ev_hdict, PL.ev_prim, PL.ev_and, PL.ev_or, PL.ev_not, PL.ev_ite, PL.ev_chain, PL.ev_call, PL.evs_nil, PL.evs_cons, PL.avs_nil, PL.avs_cons, PL.src_of, PL.src_range, PL.src_range2, PL.st_asg_, PL.st_swap_, PL.st_aug_, PL.st_append_, PL.st_hput_, PL.st_happend_, PL.st_expr_, PL.st_if_, PL.st_ret_, PL.st_raise_, PL.st_freeze_, PL.sts_nil, PL.sts_cons, PL.avOf, PL.bind, PL.ret, PL.see, PL.lift, PL.fail, PL.slot, PL.setSl, PL.needD, PL.truthAv, PL.truth, PL.test, PL.runP, PL.gets, PL.Av.get, PL.P.run, PL.addT, PL.G.put, PL.G.puts, PL.Prog.ctx, PL.walkAv, PL.walkOf, PL.wipe, PL.Def.start, PL.Def.run, PL.isOl, PL.isLref, PL.so_lit, PL.so_nil, PL.so_app, PL.so_len, PL.ite_big, PL.ite_bigN, idxT, hlast, hi, lenT_lst, lenT_ol, opI, hmz, hadd', hb1]
end K55
end
section
set_option linter.all false
set_option maxRecDepth 100000
set_option maxHeartbeats 4000000
/-! M55h: k55 in plain Lean: ballots. -/
namespace K55
open PySem PL
theorem bal_er {l : Nat} (hb : l ≤ 1000) : rangeT (.d (.int 1)) (.d (.int ((l : Int) + 1))) = some (upI 1 l) := by
  show (if -(big : Int) < 1 ∧ (1 : Int) < big ∧ -(big : Int) < (l : Int) + 1 ∧ (l : Int) + 1 < big then some (upI 1 ((l : Int) + 1 - 1).toNat) else none) = _
  have en : ((l : Int) + 1 - 1).toNat = l := by omega
  rw [if_pos (by rw [big_eq]; omega), en]
theorem Rw_0 {o l : Nat} : Rw o l 0 = List.replicate (o + 2 * l + 2) (.int 1) := by
  unfold Rw
  rw [if_pos rfl]
theorem bal_row {h : Hs} {o l : Nat} (hb : o + 2 * l ≤ 1000) : mulT h (.ol [.int 1]) (.d (.int ((o : Int) + 2 * l + 2))) = some (.ol (Rw o l 0)) := by
  have e : ((o : Int) + 2 * l + 2).toNat = o + 2 * l + 2 := by omega
  show (if [D.int 1].length * ((o : Int) + 2 * l + 2).toNat < big ∧ (o : Int) + 2 * l + 2 < big ∧ -(big : Int) < (o : Int) + 2 * l + 2 then some (T.ol (repD [D.int 1] ((o : Int) + 2 * l + 2).toNat)) else none) = _
  rw [e, if_pos (by rw [big_eq]; simp; omega), repD_one, Rw_0]
theorem bal_go {n o l : Nat} {h : Hs} (hb : o + 2 * l ≤ 1000) : ∃ c4 c5 c6 c7 c8, PL.forM (fun x => PL.bind (G.put (.nm 4) (.d x)) fun _ => Sts.ex (prog.ctx n) outB) (upI 1 l) (outS o l 1 none none none none none h) = .ok .nx (outS o l (l + 1) c4 c5 c6 c7 c8 h) := by
  have go := forM_up (f := fun x => PL.bind (G.put (.nm 4) (.d x)) fun _ => Sts.ex (prog.ctx n) outB) (b := l + 1)
    (I := fun j s => 0 < j ∧ ∃ c4 c5 c6 c7 c8, s = outS o l j c4 c5 c6 c7 c8 h) l 1 (outS o l 1 none none none none none h)
    (fun j s h1 h2 hI => by
      obtain ⟨h3, c4, c5, c6, c7, c8, rfl⟩ := hI
      obtain ⟨c4', c5', c6', c7', c8', e⟩ := outer_step (n := n) (h := h) (c4 := c4) (c5 := c5) (c6 := c6) (c7 := c7) (c8 := c8) h3 (by omega) hb
      exact ⟨_, e, by omega, _, _, _, _, _, rfl⟩) (by omega) ⟨by omega, _, _, _, _, _, rfl⟩
  obtain ⟨s', e, _, c4, c5, c6, c7, c8, rfl⟩ := go
  exact ⟨_, _, _, _, _, e⟩
theorem bal_for {n o l : Nat} {h : Hs} (hb : o + 2 * l ≤ 1000) : ∃ c4 c5 c6 c7 c8, PL.St.ex (prog.ctx n) (.for_ (.nm 4) (.range2 (.cst (.int 1)) (.prim .add [.var 1, .cst (.int 1)])) outB) (outS o l 1 none none none none none h) = .ok .nx (outS o l (l + 1) c4 c5 c6 c7 c8 h) := by
  obtain ⟨c4, c5, c6, c7, c8, e⟩ := bal_go (n := n) (h := h) hb
  refine ⟨c4, c5, c6, c7, c8, ?_⟩
  have er := bal_er (l := l) (by omega)
  rw [← e]
  have hs : Src.ev (prog.ctx n) false false (.range2 (.cst (.int 1)) (.prim .add [.var 1, .cst (.int 1)])) (outS o l 1 none none none none none h) = .ok (upI 1 l) (outS o l 1 none none none none none h) := by
    unfold outS
    simp (disch := first | omega | simp) [PL.ev_var, PL.ev_mv, PL.ev_pop, PL.ev_cst, PL.ev_tup, PL.ev_lst, PL.ev_hlst, PL.ev_hdict, PL.ev_prim, PL.ev_and, PL.ev_or, PL.ev_not, PL.ev_ite, PL.ev_chain, PL.ev_call, PL.evs_nil, PL.evs_cons, PL.avs_nil, PL.avs_cons, PL.src_of, PL.src_range, PL.src_range2, PL.st_asg_, PL.st_swap_, PL.st_aug_, PL.st_append_, PL.st_hput_, PL.st_happend_, PL.st_expr_, PL.st_if_, PL.st_ret_, PL.st_raise_, PL.st_freeze_, PL.sts_nil, PL.sts_cons, PL.avOf, PL.bind, PL.ret, PL.see, PL.lift, PL.fail, PL.slot, PL.setSl, PL.needD, PL.truthAv, PL.truth, PL.test, PL.runP, PL.gets, PL.Av.get, PL.P.run, PL.addT, PL.G.put, PL.G.puts, PL.Prog.ctx, PL.walkAv, PL.walkOf, PL.wipe, PL.Def.start, PL.Def.run, PL.isOl, PL.isLref, PL.so_lit, PL.so_nil, PL.so_app, PL.so_len, PL.ite_big, PL.ite_bigN, er]
  rw [PL.st_for_]
  unfold PL.bind
  rw [hs]
theorem call_ballots {n o l : Nat} {h : Hs} {oI lI : Int} (ho : oI = o) (hl : lI = l) (hb : o + 2 * l ≤ 1000) : prog.call (n + 1) 3 [.int oI, .int lI] h = .ok (.d (.int (B o l : Nat))) ⟨[], h⟩ := by
  subst ho
  subst hl
  obtain ⟨c4, c5, c6, c7, c8, hw⟩ := bal_for (n := n) (h := h) hb
  have hrow := bal_row (h := h) hb
  have hi1 := @idx_ol h (tb o l (l + 1)) l (.lst (Rw o l l)) (by
    unfold tb
    rw [List.getElem?_map, List.getElem?_range (by omega)]
    rfl)
  have hi2 := @idx_lst h (Rw o l l) o (.int (B o l : Nat)) (Rw_at (by omega))
  have ht : tb o l 1 = [.lst (Rw o l 0)] := rfl
  show c_ballots.run (prog.ctx n) [.int o, .int l] h = _
  unfold outB innB outS at hw
  rw [ht] at hw
  simp only [PL.Prog.ctx] at hw
  generalize Rw o l 0 = R0 at *
  generalize Rw o l l = R1 at *
  generalize tb o l (l + 1) = R2 at *
  simp (disch := first | omega | simp) [PL.ev_var, PL.ev_mv, PL.ev_pop, PL.ev_cst, PL.ev_tup, PL.ev_lst, PL.ev_hlst, PL.ev_hdict, PL.ev_prim, PL.ev_and, PL.ev_or, PL.ev_not, PL.ev_ite, PL.ev_chain, PL.ev_call, PL.evs_nil, PL.evs_cons, PL.avs_nil, PL.avs_cons, PL.src_of, PL.src_range, PL.src_range2, PL.st_asg_, PL.st_swap_, PL.st_aug_, PL.st_append_, PL.st_hput_, PL.st_happend_, PL.st_expr_, PL.st_if_, PL.st_ret_, PL.st_raise_, PL.st_freeze_, PL.sts_nil, PL.sts_cons, PL.avOf, PL.bind, PL.ret, PL.see, PL.lift, PL.fail, PL.slot, PL.setSl, PL.needD, PL.truthAv, PL.truth, PL.test, PL.runP, PL.gets, PL.Av.get, PL.P.run, PL.addT, PL.G.put, PL.G.puts, PL.Prog.ctx, PL.walkAv, PL.walkOf, PL.wipe, PL.Def.start, PL.Def.run, PL.isOl, PL.isLref, PL.so_lit, PL.so_nil, PL.so_app, PL.so_len, PL.ite_big, PL.ite_bigN, c_ballots, List.replicate, mul_2x, hrow, hw, idxT, hi1, hi2]
end K55
end
section
set_option linter.all false
set_option maxRecDepth 100000
set_option maxHeartbeats 4000000
/-! M55i: k55 in plain Lean: numbers of brackets. -/
namespace K55
open PySem PL
def numB : List PL.St := [.if_ (.and_ (.prim .eq [.var 5, .cst (.str ⟨#[40]⟩)]) (.prim .lt [.var 3, .var 1])) [.aug 2 .add (.cst (.int 1)), .aug 3 .add (.cst (.int 1))] [.if_ (.and_ (.prim .eq [.var 5, .cst (.str ⟨#[41]⟩)]) (.prim .gt [.var 2, .cst (.int 0)])) [.if_ (.prim .lt [.var 3, .var 1]) [.aug 4 .add (.call 3 [.prim .add [.var 2, .cst (.int 1)], .prim .sub [.prim .sub [.var 1, .var 3], .cst (.int 1)]])] [], .aug 2 .sub (.cst (.int 1))] [.raise 1]]]
def numS (s0 : List Nat) (t o u f : Int) (c5 : Option T) (h : Hs) : S := ⟨[some (.d (.str (so s0))), some (.d (.int t)), some (.d (.int o)), some (.d (.int u)), some (.d (.int f)), c5], h⟩
theorem num_loop {n : Nat} {s0 : List Nat} {t : Int} {h : Hs} : ∀ (s : List Nat) (o l f : Nat) (u : Int) (c5 : Option T), u + l = t → o + 2 * l ≤ 900 →
    (∃ o' l' f' : Nat, ∃ u' c5', fo o l f s = some (o', l', f') ∧ PL.forM (fun x => PL.bind (G.put (.nm 5) (.d x)) fun _ => Sts.ex (prog.ctx (n + 1)) numB) (s.map fun c => .str (so [c])) (numS s0 t o u f c5 h) = .ok .nx (numS s0 t o' u' f' c5' h)) ∨
    (fo o l f s = none ∧ PL.forM (fun x => PL.bind (G.put (.nm 5) (.d x)) fun _ => Sts.ex (prog.ctx (n + 1)) numB) (s.map fun c => .str (so [c])) (numS s0 t o u f c5 h) = .ex 1 h)
  | [], o, l, f, u, c5, hu, hb => .inl ⟨o, l, f, u, c5, rfl, rfl⟩
  | c :: s, o, l, f, u, c5, hu, hb => by
    have step : ∀ s', (PL.bind (G.put (.nm 5) (.d (.str (so [c])))) fun _ => Sts.ex (prog.ctx (n + 1)) numB) (numS s0 t o u f c5 h) = .ok .nx s' → PL.forM (fun x => PL.bind (G.put (.nm 5) (.d x)) fun _ => Sts.ex (prog.ctx (n + 1)) numB) ((c :: s).map fun c => .str (so [c])) (numS s0 t o u f c5 h) = PL.forM (fun x => PL.bind (G.put (.nm 5) (.d x)) fun _ => Sts.ex (prog.ctx (n + 1)) numB) (s.map fun c => .str (so [c])) s' := by
      intro s' e
      rw [List.map_cons]
      show PL.bind (PL.bind (G.put (.nm 5) (.d (.str (so [c])))) fun _ => Sts.ex (prog.ctx (n + 1)) numB) _ _ = _
      rw [PL.bind, e]
    have stop : ∀ g', (PL.bind (G.put (.nm 5) (.d (.str (so [c])))) fun _ => Sts.ex (prog.ctx (n + 1)) numB) (numS s0 t o u f c5 h) = .ex 1 g' → PL.forM (fun x => PL.bind (G.put (.nm 5) (.d x)) fun _ => Sts.ex (prog.ctx (n + 1)) numB) ((c :: s).map fun c => .str (so [c])) (numS s0 t o u f c5 h) = .ex 1 g' := by
      intro g' e
      rw [List.map_cons]
      show PL.bind (PL.bind (G.put (.nm 5) (.d (.str (so [c])))) fun _ => Sts.ex (prog.ctx (n + 1)) numB) _ _ = _
      rw [PL.bind, e]
    by_cases h1 : c = 40 ∧ 0 < l
    · obtain ⟨rfl, hl⟩ := h1
      have hut : u < t := by omega
      have e1 := step (numS s0 t (o + 1 : Nat) (u + 1) f (some (.d (.str (so [40])))) h) (by
        unfold numB numS
        simp (disch := first | omega | simp) [PL.ev_var, PL.ev_mv, PL.ev_pop, PL.ev_cst, PL.ev_tup, PL.ev_lst, PL.ev_hlst, PL.ev_hdict, PL.ev_prim, PL.ev_and, PL.ev_or, PL.ev_not, PL.ev_ite, PL.ev_chain, PL.ev_call, PL.evs_nil, PL.evs_cons, PL.avs_nil, PL.avs_cons, PL.src_of, PL.src_range, PL.src_range2, PL.st_asg_, PL.st_swap_, PL.st_aug_, PL.st_append_, PL.st_hput_, PL.st_happend_, PL.st_expr_, PL.st_if_, PL.st_ret_, PL.st_raise_, PL.st_freeze_, PL.sts_nil, PL.sts_cons, PL.avOf, PL.bind, PL.ret, PL.see, PL.lift, PL.fail, PL.slot, PL.setSl, PL.needD, PL.truthAv, PL.truth, PL.test, PL.runP, PL.gets, PL.Av.get, PL.P.run, PL.addT, PL.G.put, PL.G.puts, PL.Prog.ctx, PL.walkAv, PL.walkOf, PL.wipe, PL.Def.start, PL.Def.run, PL.isOl, PL.isLref, PL.so_lit, PL.so_nil, PL.so_app, PL.so_len, PL.ite_big, PL.ite_bigN, eq_str, so_beq, cmpI, blT, hut, augT])
      have e2 : fo o l f (40 :: s) = fo (o + 1) (l - 1) f s := by
        rw [fo, if_pos ⟨rfl, hl⟩]
      rw [e1, e2]
      exact num_loop s (o + 1) (l - 1) f (u + 1) _ (by omega) (by omega)
    · by_cases h2 : c = 41 ∧ 0 < o
      · obtain ⟨rfl, ho⟩ := h2
        have e2 : fo o l f (41 :: s) = fo (o - 1) l (f + wy o l) s := by
          rw [fo, if_neg h1, if_pos ⟨rfl, ho⟩]
        have ho' : (0 : Int) < o := by omega
        have ec : ((o - 1 : Nat) : Int) = (o : Int) - 1 := by omega
        have e1 := step (numS s0 t (o - 1 : Nat) u (f + wy o l : Nat) (some (.d (.str (so [41])))) h) (by
          cases l with
          | zero =>
            have hut : ¬ u < t := by omega
            have hw : wy o 0 = 0 := rfl
            rw [ec, hw]
            unfold numB numS
            simp (disch := first | omega | simp) [PL.ev_var, PL.ev_mv, PL.ev_pop, PL.ev_cst, PL.ev_tup, PL.ev_lst, PL.ev_hlst, PL.ev_hdict, PL.ev_prim, PL.ev_and, PL.ev_or, PL.ev_not, PL.ev_ite, PL.ev_chain, PL.ev_call, PL.evs_nil, PL.evs_cons, PL.avs_nil, PL.avs_cons, PL.src_of, PL.src_range, PL.src_range2, PL.st_asg_, PL.st_swap_, PL.st_aug_, PL.st_append_, PL.st_hput_, PL.st_happend_, PL.st_expr_, PL.st_if_, PL.st_ret_, PL.st_raise_, PL.st_freeze_, PL.sts_nil, PL.sts_cons, PL.avOf, PL.bind, PL.ret, PL.see, PL.lift, PL.fail, PL.slot, PL.setSl, PL.needD, PL.truthAv, PL.truth, PL.test, PL.runP, PL.gets, PL.Av.get, PL.P.run, PL.addT, PL.G.put, PL.G.puts, PL.Prog.ctx, PL.walkAv, PL.walkOf, PL.wipe, PL.Def.start, PL.Def.run, PL.isOl, PL.isLref, PL.so_lit, PL.so_nil, PL.so_app, PL.so_len, PL.ite_big, PL.ite_bigN, eq_str, so_beq, cmpI, blT, hut, ho, ho', augT]
          | succ l =>
            have hut : u < t := by omega
            have hw : wy o (l + 1) = B (o + 1) l := rfl
            have hc := call_ballots (n := n) (o := o + 1) (l := l) (h := h) (oI := (o : Int) + 1) (lI := t - u - 1) (by omega) (by omega) (by omega)
            rw [ec, hw]
            unfold numB numS
            simp (disch := first | omega | simp) [PL.ev_var, PL.ev_mv, PL.ev_pop, PL.ev_cst, PL.ev_tup, PL.ev_lst, PL.ev_hlst, PL.ev_hdict, PL.ev_prim, PL.ev_and, PL.ev_or, PL.ev_not, PL.ev_ite, PL.ev_chain, PL.ev_call, PL.evs_nil, PL.evs_cons, PL.avs_nil, PL.avs_cons, PL.src_of, PL.src_range, PL.src_range2, PL.st_asg_, PL.st_swap_, PL.st_aug_, PL.st_append_, PL.st_hput_, PL.st_happend_, PL.st_expr_, PL.st_if_, PL.st_ret_, PL.st_raise_, PL.st_freeze_, PL.sts_nil, PL.sts_cons, PL.avOf, PL.bind, PL.ret, PL.see, PL.lift, PL.fail, PL.slot, PL.setSl, PL.needD, PL.truthAv, PL.truth, PL.test, PL.runP, PL.gets, PL.Av.get, PL.P.run, PL.addT, PL.G.put, PL.G.puts, PL.Prog.ctx, PL.walkAv, PL.walkOf, PL.wipe, PL.Def.start, PL.Def.run, PL.isOl, PL.isLref, PL.so_lit, PL.so_nil, PL.so_app, PL.so_len, PL.ite_big, PL.ite_bigN, eq_str, so_beq, cmpI, blT, opI, hut, ho, ho', augT, hc])
        rw [e1, e2]
        exact num_loop s (o - 1) l (f + wy o l) u _ hu (by omega)
      · right
        refine ⟨by rw [fo, if_neg h1, if_neg h2], stop _ ?_⟩
        unfold numB numS
        by_cases hc : c = 40
        · subst hc
          have hut : ¬ u < t := by omega
          simp (disch := first | omega | simp) [PL.ev_var, PL.ev_mv, PL.ev_pop, PL.ev_cst, PL.ev_tup, PL.ev_lst, PL.ev_hlst, PL.ev_hdict, PL.ev_prim, PL.ev_and, PL.ev_or, PL.ev_not, PL.ev_ite, PL.ev_chain, PL.ev_call, PL.evs_nil, PL.evs_cons, PL.avs_nil, PL.avs_cons, PL.src_of, PL.src_range, PL.src_range2, PL.st_asg_, PL.st_swap_, PL.st_aug_, PL.st_append_, PL.st_hput_, PL.st_happend_, PL.st_expr_, PL.st_if_, PL.st_ret_, PL.st_raise_, PL.st_freeze_, PL.sts_nil, PL.sts_cons, PL.avOf, PL.bind, PL.ret, PL.see, PL.lift, PL.fail, PL.slot, PL.setSl, PL.needD, PL.truthAv, PL.truth, PL.test, PL.runP, PL.gets, PL.Av.get, PL.P.run, PL.addT, PL.G.put, PL.G.puts, PL.Prog.ctx, PL.walkAv, PL.walkOf, PL.wipe, PL.Def.start, PL.Def.run, PL.isOl, PL.isLref, PL.so_lit, PL.so_nil, PL.so_app, PL.so_len, PL.ite_big, PL.ite_bigN, eq_str, so_beq, cmpI, blT, hut]
        · by_cases hc2 : c = 41
          · subst hc2
            have ho : o = 0 := by omega
            subst ho
            simp (disch := first | omega | simp) [PL.ev_var, PL.ev_mv, PL.ev_pop, PL.ev_cst, PL.ev_tup, PL.ev_lst, PL.ev_hlst, PL.ev_hdict, PL.ev_prim, PL.ev_and, PL.ev_or, PL.ev_not, PL.ev_ite, PL.ev_chain, PL.ev_call, PL.evs_nil, PL.evs_cons, PL.avs_nil, PL.avs_cons, PL.src_of, PL.src_range, PL.src_range2, PL.st_asg_, PL.st_swap_, PL.st_aug_, PL.st_append_, PL.st_hput_, PL.st_happend_, PL.st_expr_, PL.st_if_, PL.st_ret_, PL.st_raise_, PL.st_freeze_, PL.sts_nil, PL.sts_cons, PL.avOf, PL.bind, PL.ret, PL.see, PL.lift, PL.fail, PL.slot, PL.setSl, PL.needD, PL.truthAv, PL.truth, PL.test, PL.runP, PL.gets, PL.Av.get, PL.P.run, PL.addT, PL.G.put, PL.G.puts, PL.Prog.ctx, PL.walkAv, PL.walkOf, PL.wipe, PL.Def.start, PL.Def.run, PL.isOl, PL.isLref, PL.so_lit, PL.so_nil, PL.so_app, PL.so_len, PL.ite_big, PL.ite_bigN, eq_str, so_beq, cmpI, blT]
          · simp (disch := first | omega | simp) [PL.ev_var, PL.ev_mv, PL.ev_pop, PL.ev_cst, PL.ev_tup, PL.ev_lst, PL.ev_hlst, PL.ev_hdict, PL.ev_prim, PL.ev_and, PL.ev_or, PL.ev_not, PL.ev_ite, PL.ev_chain, PL.ev_call, PL.evs_nil, PL.evs_cons, PL.avs_nil, PL.avs_cons, PL.src_of, PL.src_range, PL.src_range2, PL.st_asg_, PL.st_swap_, PL.st_aug_, PL.st_append_, PL.st_hput_, PL.st_happend_, PL.st_expr_, PL.st_if_, PL.st_ret_, PL.st_raise_, PL.st_freeze_, PL.sts_nil, PL.sts_cons, PL.avOf, PL.bind, PL.ret, PL.see, PL.lift, PL.fail, PL.slot, PL.setSl, PL.needD, PL.truthAv, PL.truth, PL.test, PL.runP, PL.gets, PL.Av.get, PL.P.run, PL.addT, PL.G.put, PL.G.puts, PL.Prog.ctx, PL.walkAv, PL.walkOf, PL.wipe, PL.Def.start, PL.Def.run, PL.isOl, PL.isLref, PL.so_lit, PL.so_nil, PL.so_app, PL.so_len, PL.ite_big, PL.ite_bigN, eq_str, so_beq, cmpI, blT, hc, hc2]
theorem call_number {n : Nat} {s : List Nat} {h : Hs} (hs : s.length ≤ 400) :
    (∃ f, fo 0 (s.length / 2) 0 s = some (0, 0, f) ∧ prog.call (n + 2) 4 [.str (so s)] h = .ok (.d (.int (f : Nat))) ⟨[], h⟩) ∨ ((∀ f, fo 0 (s.length / 2) 0 s ≠ some (0, 0, f)) ∧ prog.call (n + 2) 4 [.str (so s)] h = .ex 1 h) := by
  have sh : prog.call (n + 2) 4 [.str (so s)] h = c_shape_number.run (prog.ctx (n + 1)) [.str (so s)] h := rfl
  rw [sh]
  obtain ⟨t, ht⟩ : ∃ t : Int, (s.length : Int) / 2 = t := ⟨_, rfl⟩
  have es : signsOf (so s) = s.map fun c => .str (so [c]) := by
    unfold signsOf so
    simp
  rcases num_loop (n := n) (s0 := s) (t := t) (h := h) s 0 (s.length / 2) 0 0 none (by omega) (by omega) with ⟨o', l', f', u', c5', f1, f2⟩ | ⟨f1, f2⟩
  · have hw : PL.St.ex (prog.ctx (n + 1)) (.for_ (.nm 5) (.of (.var 0)) numB) (numS s t 0 0 0 none h) = .ok .nx (numS s t o' u' f' c5' h) := by
      rw [← f2, ← es]
      rfl
    have hfl := fo_len _ _ _ _ _ _ _ f1
    unfold numB numS at hw
    simp only [PL.Prog.ctx, PL.so_lit] at hw
    have ho0 : o' = 0 := by omega
    have hl0 : l' = 0 := by omega
    subst ho0
    subst hl0
    left
    refine ⟨f', f1, ?_⟩
    have he' : 2 * t = (s.length : Int) := by omega
    simp (disch := first | omega | simp) [PL.ev_var, PL.ev_mv, PL.ev_pop, PL.ev_cst, PL.ev_tup, PL.ev_lst, PL.ev_hlst, PL.ev_hdict, PL.ev_prim, PL.ev_and, PL.ev_or, PL.ev_not, PL.ev_ite, PL.ev_chain, PL.ev_call, PL.evs_nil, PL.evs_cons, PL.avs_nil, PL.avs_cons, PL.src_of, PL.src_range, PL.src_range2, PL.st_asg_, PL.st_swap_, PL.st_aug_, PL.st_append_, PL.st_hput_, PL.st_happend_, PL.st_expr_, PL.st_if_, PL.st_ret_, PL.st_raise_, PL.st_freeze_, PL.sts_nil, PL.sts_cons, PL.avOf, PL.bind, PL.ret, PL.see, PL.lift, PL.fail, PL.slot, PL.setSl, PL.needD, PL.truthAv, PL.truth, PL.test, PL.runP, PL.gets, PL.Av.get, PL.P.run, PL.addT, PL.G.put, PL.G.puts, PL.Prog.ctx, PL.walkAv, PL.walkOf, PL.wipe, PL.Def.start, PL.Def.run, PL.isOl, PL.isLref, PL.so_lit, PL.so_nil, PL.so_app, PL.so_len, PL.ite_big, PL.ite_bigN, c_shape_number, List.replicate, lenT_so, opI, ht, hw, cmpI, mul_2x, eq_int, blT, he']
  · right
    have hw : PL.St.ex (prog.ctx (n + 1)) (.for_ (.nm 5) (.of (.var 0)) numB) (numS s t 0 0 0 none h) = .ex 1 h := by
      rw [← f2, ← es]
      rfl
    unfold numB numS at hw
    simp only [PL.Prog.ctx, PL.so_lit] at hw
    refine ⟨fun f e => ?_, ?_⟩
    · rw [e] at f1
      cases f1
    · simp (disch := first | omega | simp) [PL.ev_var, PL.ev_mv, PL.ev_pop, PL.ev_cst, PL.ev_tup, PL.ev_lst, PL.ev_hlst, PL.ev_hdict, PL.ev_prim, PL.ev_and, PL.ev_or, PL.ev_not, PL.ev_ite, PL.ev_chain, PL.ev_call, PL.evs_nil, PL.evs_cons, PL.avs_nil, PL.avs_cons, PL.src_of, PL.src_range, PL.src_range2, PL.st_asg_, PL.st_swap_, PL.st_aug_, PL.st_append_, PL.st_hput_, PL.st_happend_, PL.st_expr_, PL.st_if_, PL.st_ret_, PL.st_raise_, PL.st_freeze_, PL.sts_nil, PL.sts_cons, PL.avOf, PL.bind, PL.ret, PL.see, PL.lift, PL.fail, PL.slot, PL.setSl, PL.needD, PL.truthAv, PL.truth, PL.test, PL.runP, PL.gets, PL.Av.get, PL.P.run, PL.addT, PL.G.put, PL.G.puts, PL.Prog.ctx, PL.walkAv, PL.walkOf, PL.wipe, PL.Def.start, PL.Def.run, PL.isOl, PL.isLref, PL.so_lit, PL.so_nil, PL.so_app, PL.so_len, PL.ite_big, PL.ite_bigN, c_shape_number, List.replicate, lenT_so, opI, ht, hw]
end K55
end
section
set_option linter.all false
set_option maxRecDepth 100000
set_option maxHeartbeats 4000000
/-! M55j: k55 in plain Lean: the brackets with a number; all brackets. -/
namespace K55
open PySem PL
def ofC : E := .prim .lt [.prim .len [.var 2], .prim .mul [.cst (.int 2), .var 0]]
def ofB : List PL.St := [.asg (.nm 5) (.ite (.prim .lt [.var 4, .var 0]) (.call 3 [.prim .add [.var 3, .cst (.int 1)], .prim .sub [.prim .sub [.var 0, .var 4], .cst (.int 1)]]) (.cst (.int 0))), .if_ (.prim .lt [.var 1, .var 5]) [.aug 2 .add (.cst (.str ⟨#[40]⟩)), .aug 3 .add (.cst (.int 1)), .aug 4 .add (.cst (.int 1))] [.aug 1 .sub (.var 5), .aug 2 .add (.cst (.str ⟨#[41]⟩)), .aug 3 .sub (.cst (.int 1))]]
def ofS (t : Nat) (m : Int) (p : List Nat) (o u : Int) (c5 : Option T) (h : Hs) : S := ⟨[some (.d (.int (t : Int))), some (.d (.int m)), some (.d (.str (so p))), some (.d (.int o)), some (.d (.int u)), c5], h⟩
theorem of_step {n t o l m : Nat} {u : Int} {p : List Nat} {c5 : Option T} {h : Hs} (hu : u + l = t) (hm : m < B o l) (hp : p.length + 2 * l + o = 2 * t) (ht : t ≤ 200) (hk : 0 < 2 * l + o) :
    ∃ o' l' m' c u' c5', un o l m = c :: un o' l' m' ∧ u' + l' = (t : Int) ∧ m' < B o' l' ∧ 2 * l' + o' + 1 = 2 * l + o ∧ Sts.ex (prog.ctx (n + 1)) ofB (ofS t m p o u c5 h) = .ok .nx (ofS t m' (p ++ [c]) o' u' c5' h) := by
  cases l with
  | zero =>
    cases o with
    | zero => omega
    | succ o =>
      have hut : ¬ u < t := by omega
      refine ⟨o, 0, m, 41, u, some (.d (.int 0)), by rw [un.eq_3], hu, by simpa [B] using hm, by omega, ?_⟩
      have e : ((o + 1 : Nat) : Int) - 1 = o := by omega
      have e2 : ((o + 1 : Nat) : Int) = (o : Int) + 1 := by omega
      have hm0 : ¬ (m : Int) < 0 := by omega
      rw [e2]
      unfold ofB ofS
      simp (disch := first | omega | simp) [PL.ev_var, PL.ev_mv, PL.ev_pop, PL.ev_cst, PL.ev_tup, PL.ev_lst, PL.ev_hlst, PL.ev_hdict, PL.ev_prim, PL.ev_and, PL.ev_or, PL.ev_not, PL.ev_ite, PL.ev_chain, PL.ev_call, PL.evs_nil, PL.evs_cons, PL.avs_nil, PL.avs_cons, PL.src_of, PL.src_range, PL.src_range2, PL.st_asg_, PL.st_swap_, PL.st_aug_, PL.st_append_, PL.st_hput_, PL.st_happend_, PL.st_expr_, PL.st_if_, PL.st_ret_, PL.st_raise_, PL.st_freeze_, PL.sts_nil, PL.sts_cons, PL.avOf, PL.bind, PL.ret, PL.see, PL.lift, PL.fail, PL.slot, PL.setSl, PL.needD, PL.truthAv, PL.truth, PL.test, PL.runP, PL.gets, PL.Av.get, PL.P.run, PL.addT, PL.G.put, PL.G.puts, PL.Prog.ctx, PL.walkAv, PL.walkOf, PL.wipe, PL.Def.start, PL.Def.run, PL.isOl, PL.isLref, PL.so_lit, PL.so_nil, PL.so_app, PL.so_len, PL.ite_big, PL.ite_bigN, cmpI, hut, augT, hm0]
  | succ l =>
    have hut : u < t := by omega
    have hc := call_ballots (n := n) (o := o + 1) (l := l) (h := h) (oI := (o : Int) + 1) (lI := t - u - 1) (by omega) (by omega) (by omega)
    have take : m < B (o + 1) l → Sts.ex (prog.ctx (n + 1)) ofB (ofS t m p o u c5 h) = .ok .nx (ofS t m (p ++ [40]) (o + 1 : Nat) (u + 1) (some (.d (.int (B (o + 1) l : Nat)))) h) := by
      intro hlt
      have hlt' : (m : Int) < (B (o + 1) l : Nat) := by omega
      unfold ofB ofS
      simp (disch := first | omega | simp) [PL.ev_var, PL.ev_mv, PL.ev_pop, PL.ev_cst, PL.ev_tup, PL.ev_lst, PL.ev_hlst, PL.ev_hdict, PL.ev_prim, PL.ev_and, PL.ev_or, PL.ev_not, PL.ev_ite, PL.ev_chain, PL.ev_call, PL.evs_nil, PL.evs_cons, PL.avs_nil, PL.avs_cons, PL.src_of, PL.src_range, PL.src_range2, PL.st_asg_, PL.st_swap_, PL.st_aug_, PL.st_append_, PL.st_hput_, PL.st_happend_, PL.st_expr_, PL.st_if_, PL.st_ret_, PL.st_raise_, PL.st_freeze_, PL.sts_nil, PL.sts_cons, PL.avOf, PL.bind, PL.ret, PL.see, PL.lift, PL.fail, PL.slot, PL.setSl, PL.needD, PL.truthAv, PL.truth, PL.test, PL.runP, PL.gets, PL.Av.get, PL.P.run, PL.addT, PL.G.put, PL.G.puts, PL.Prog.ctx, PL.walkAv, PL.walkOf, PL.wipe, PL.Def.start, PL.Def.run, PL.isOl, PL.isLref, PL.so_lit, PL.so_nil, PL.so_app, PL.so_len, PL.ite_big, PL.ite_bigN, cmpI, opI, hut, augT, hc, hlt, hlt']
    cases o with
    | zero =>
      have hm2 : m < B 1 l := by
        rw [B.eq_2] at hm
        exact hm
      exact ⟨1, l, m, 40, u + 1, _, by rw [un.eq_2], by omega, hm2, by omega, take hm2⟩
    | succ o =>
      by_cases hlt : m < B (o + 2) l
      · exact ⟨o + 2, l, m, 40, u + 1, _, by rw [un.eq_4, if_pos hlt], by omega, hlt, by omega, take hlt⟩
      · rw [B.eq_3] at hm
        refine ⟨o, l + 1, m - B (o + 2) l, 41, u, some (.d (.int (B (o + 2) l : Nat))), by rw [un.eq_4, if_neg hlt], hu, by omega, by omega, ?_⟩
        have hlt' : ¬ (m : Int) < (B (o + 2) l : Nat) := by omega
        have e1 : ((m - B (o + 2) l : Nat) : Int) = (m : Int) - (B (o + 2) l : Nat) := by omega
        have e2 : ((o + 1 : Nat) : Int) = (o : Int) + 1 := by omega
        have hc' : prog.call (n + 1) 3 [.int ((o : Int) + 1 + 1), .int (t - u - 1)] h = .ok (.d (.int (B (o + 2) l : Nat))) ⟨[], h⟩ := call_ballots (by omega) (by omega) (by omega)
        rw [e1, e2]
        revert hc' hlt hlt'
        generalize B (o + 2) l = Q
        intro hlt hlt' hc'
        have hc2 : prog.call (n + 1) 3 [.int ((o : Int) + 2), .int (t - u - 1)] h = .ok (.d (.int (Q : Nat))) ⟨[], h⟩ := by
          have : ((o : Int) + 1 + 1) = (o : Int) + 2 := by omega
          rw [← this]
          exact hc'
        unfold ofB ofS
        simp (disch := first | omega | simp) [PL.ev_var, PL.ev_mv, PL.ev_pop, PL.ev_cst, PL.ev_tup, PL.ev_lst, PL.ev_hlst, PL.ev_hdict, PL.ev_prim, PL.ev_and, PL.ev_or, PL.ev_not, PL.ev_ite, PL.ev_chain, PL.ev_call, PL.evs_nil, PL.evs_cons, PL.avs_nil, PL.avs_cons, PL.src_of, PL.src_range, PL.src_range2, PL.st_asg_, PL.st_swap_, PL.st_aug_, PL.st_append_, PL.st_hput_, PL.st_happend_, PL.st_expr_, PL.st_if_, PL.st_ret_, PL.st_raise_, PL.st_freeze_, PL.sts_nil, PL.sts_cons, PL.avOf, PL.bind, PL.ret, PL.see, PL.lift, PL.fail, PL.slot, PL.setSl, PL.needD, PL.truthAv, PL.truth, PL.test, PL.runP, PL.gets, PL.Av.get, PL.P.run, PL.addT, PL.G.put, PL.G.puts, PL.Prog.ctx, PL.walkAv, PL.walkOf, PL.wipe, PL.Def.start, PL.Def.run, PL.isOl, PL.isLref, PL.so_lit, PL.so_nil, PL.so_app, PL.so_len, PL.ite_big, PL.ite_bigN, cmpI, opI, hut, augT, hc', hc2, hlt, hlt']
theorem un_nil {o l m : Nat} (h : 2 * l + o = 0) : un o l m = [] := by
  have h1 : o = 0 := by omega
  have h2 : l = 0 := by omega
  subst h1
  subst h2
  rw [un.eq_1]
theorem call_of {n t : Nat} {m : Int} {h : Hs} (ht : t ≤ 200) :
    prog.call (n + 2) 5 [.int (t : Int), .int m] h = if 0 ≤ m ∧ m < (B 0 t : Nat) then .ok (.d (.str (so (un 0 t m.toNat)))) ⟨[], h⟩ else .ex 1 h := by
  have sh : prog.call (n + 2) 5 [.int (t : Int), .int m] h = c_shape_of_number.run (prog.ctx (n + 1)) [.int (t : Int), .int m] h := rfl
  rw [sh]
  have hc := call_ballots (n := n) (o := 0) (l := t) (h := h) (oI := 0) (lI := t) rfl rfl (by omega)
  by_cases h0 : 0 ≤ m
  · by_cases h1 : m < (B 0 t : Nat)
    · rw [if_pos ⟨h0, h1⟩]
      obtain ⟨k, hk⟩ : ∃ k : Nat, m = k := ⟨m.toNat, by omega⟩
      subst hk
      have htn : ((k : Int)).toNat = k := by omega
      rw [htn]
      obtain ⟨s', e, p', o', u', m', c5', rfl, hp⟩ := while_inv (c := test (prog.ctx (n + 1)) ofC) (b := Sts.ex (prog.ctx (n + 1)) ofB)
        (I := fun j s => ∃ o l m' p u c5, s = ofS t (m' : Nat) p (o : Nat) u c5 h ∧ p ++ un o l m' = un 0 t k ∧ u + (l : Nat) = (t : Int) ∧ m' < B o l ∧ p.length + 2 * l + o = 2 * t ∧ j = 2 * l + o)
        (Post := fun s => ∃ p, ∃ o : Nat, ∃ u, ∃ m' : Nat, ∃ c5, s = ofS t m' p o u c5 h ∧ p = un 0 t k)
        (fun j s hI => by
          obtain ⟨o, l, m', p, u, c5, rfl, hp, hu, hm, hl, rfl⟩ := hI
          by_cases hz : 0 < 2 * l + o
          · right
            obtain ⟨o', l', m2, c, u', c5', e1, e2, e3, e4, e5⟩ := of_step (n := n) (c5 := c5) (h := h) hu hm hl ht hz
            refine ⟨ofS t (m' : Nat) p (o : Nat) u c5 h, ofS t m2 (p ++ [c]) o' u' c5' h, 2 * l' + o', ?_, e5, by omega, o', l', m2, p ++ [c], u', c5', rfl, ?_, e2, e3, ?_, rfl⟩
            · have hlt : (p.length : Int) < 2 * (t : Int) := by omega
              unfold ofC ofS
              simp (disch := first | omega | simp) [PL.ev_var, PL.ev_mv, PL.ev_pop, PL.ev_cst, PL.ev_tup, PL.ev_lst, PL.ev_hlst, PL.ev_hdict, PL.ev_prim, PL.ev_and, PL.ev_or, PL.ev_not, PL.ev_ite, PL.ev_chain, PL.ev_call, PL.evs_nil, PL.evs_cons, PL.avs_nil, PL.avs_cons, PL.src_of, PL.src_range, PL.src_range2, PL.st_asg_, PL.st_swap_, PL.st_aug_, PL.st_append_, PL.st_hput_, PL.st_happend_, PL.st_expr_, PL.st_if_, PL.st_ret_, PL.st_raise_, PL.st_freeze_, PL.sts_nil, PL.sts_cons, PL.avOf, PL.bind, PL.ret, PL.see, PL.lift, PL.fail, PL.slot, PL.setSl, PL.needD, PL.truthAv, PL.truth, PL.test, PL.runP, PL.gets, PL.Av.get, PL.P.run, PL.addT, PL.G.put, PL.G.puts, PL.Prog.ctx, PL.walkAv, PL.walkOf, PL.wipe, PL.Def.start, PL.Def.run, PL.isOl, PL.isLref, PL.so_lit, PL.so_nil, PL.so_app, PL.so_len, PL.ite_big, PL.ite_bigN, lenT_so, mul_2x, cmpI, hlt]
            · rw [← hp, e1]
              simp
            · rw [List.length_append]
              show p.length + 1 + 2 * l' + o' = 2 * t
              omega
          · left
            refine ⟨ofS t (m' : Nat) p (o : Nat) u c5 h, ?_, p, o, u, m', c5, rfl, ?_⟩
            · have hlt : ¬ (p.length : Int) < 2 * (t : Int) := by omega
              unfold ofC ofS
              simp (disch := first | omega | simp) [PL.ev_var, PL.ev_mv, PL.ev_pop, PL.ev_cst, PL.ev_tup, PL.ev_lst, PL.ev_hlst, PL.ev_hdict, PL.ev_prim, PL.ev_and, PL.ev_or, PL.ev_not, PL.ev_ite, PL.ev_chain, PL.ev_call, PL.evs_nil, PL.evs_cons, PL.avs_nil, PL.avs_cons, PL.src_of, PL.src_range, PL.src_range2, PL.st_asg_, PL.st_swap_, PL.st_aug_, PL.st_append_, PL.st_hput_, PL.st_happend_, PL.st_expr_, PL.st_if_, PL.st_ret_, PL.st_raise_, PL.st_freeze_, PL.sts_nil, PL.sts_cons, PL.avOf, PL.bind, PL.ret, PL.see, PL.lift, PL.fail, PL.slot, PL.setSl, PL.needD, PL.truthAv, PL.truth, PL.test, PL.runP, PL.gets, PL.Av.get, PL.P.run, PL.addT, PL.G.put, PL.G.puts, PL.Prog.ctx, PL.walkAv, PL.walkOf, PL.wipe, PL.Def.start, PL.Def.run, PL.isOl, PL.isLref, PL.so_lit, PL.so_nil, PL.so_app, PL.so_len, PL.ite_big, PL.ite_bigN, lenT_so, mul_2x, cmpI, hlt]
            · rw [← hp, un_nil (by omega)]
              simp)
        (2 * t) prog.fuel (ofS t k [] 0 0 none h) (by show 2 * t < 1000000; omega) ⟨0, t, k, [], 0, none, rfl, rfl, by omega, by omega, by simp, by simp⟩
      have hw : PL.St.ex (prog.ctx (n + 1)) (.while_ ofC ofB) (ofS t k [] 0 0 none h) = .ok .nx (ofS t m' p' o' u' c5' h) := e
      unfold ofC ofB ofS at hw
      simp only [PL.Prog.ctx, PL.so_lit] at hw
      rw [← hp]
      have h1' : k < B 0 t := by omega
      simp (disch := first | omega | simp) [PL.ev_var, PL.ev_mv, PL.ev_pop, PL.ev_cst, PL.ev_tup, PL.ev_lst, PL.ev_hlst, PL.ev_hdict, PL.ev_prim, PL.ev_and, PL.ev_or, PL.ev_not, PL.ev_ite, PL.ev_chain, PL.ev_call, PL.evs_nil, PL.evs_cons, PL.avs_nil, PL.avs_cons, PL.src_of, PL.src_range, PL.src_range2, PL.st_asg_, PL.st_swap_, PL.st_aug_, PL.st_append_, PL.st_hput_, PL.st_happend_, PL.st_expr_, PL.st_if_, PL.st_ret_, PL.st_raise_, PL.st_freeze_, PL.sts_nil, PL.sts_cons, PL.avOf, PL.bind, PL.ret, PL.see, PL.lift, PL.fail, PL.slot, PL.setSl, PL.needD, PL.truthAv, PL.truth, PL.test, PL.runP, PL.gets, PL.Av.get, PL.P.run, PL.addT, PL.G.put, PL.G.puts, PL.Prog.ctx, PL.walkAv, PL.walkOf, PL.wipe, PL.Def.start, PL.Def.run, PL.isOl, PL.isLref, PL.so_lit, PL.so_nil, PL.so_app, PL.so_len, PL.ite_big, PL.ite_bigN, c_shape_of_number, List.replicate, cmpI, hc, h1, h1', hw]
    · rw [if_neg fun z => h1 z.2]
      simp (disch := first | omega | simp) [PL.ev_var, PL.ev_mv, PL.ev_pop, PL.ev_cst, PL.ev_tup, PL.ev_lst, PL.ev_hlst, PL.ev_hdict, PL.ev_prim, PL.ev_and, PL.ev_or, PL.ev_not, PL.ev_ite, PL.ev_chain, PL.ev_call, PL.evs_nil, PL.evs_cons, PL.avs_nil, PL.avs_cons, PL.src_of, PL.src_range, PL.src_range2, PL.st_asg_, PL.st_swap_, PL.st_aug_, PL.st_append_, PL.st_hput_, PL.st_happend_, PL.st_expr_, PL.st_if_, PL.st_ret_, PL.st_raise_, PL.st_freeze_, PL.sts_nil, PL.sts_cons, PL.avOf, PL.bind, PL.ret, PL.see, PL.lift, PL.fail, PL.slot, PL.setSl, PL.needD, PL.truthAv, PL.truth, PL.test, PL.runP, PL.gets, PL.Av.get, PL.P.run, PL.addT, PL.G.put, PL.G.puts, PL.Prog.ctx, PL.walkAv, PL.walkOf, PL.wipe, PL.Def.start, PL.Def.run, PL.isOl, PL.isLref, PL.so_lit, PL.so_nil, PL.so_app, PL.so_len, PL.ite_big, PL.ite_bigN, c_shape_of_number, List.replicate, cmpI, hc, h0, h1]
  · rw [if_neg fun z => h0 z.1]
    simp (disch := first | omega | simp) [PL.ev_var, PL.ev_mv, PL.ev_pop, PL.ev_cst, PL.ev_tup, PL.ev_lst, PL.ev_hlst, PL.ev_hdict, PL.ev_prim, PL.ev_and, PL.ev_or, PL.ev_not, PL.ev_ite, PL.ev_chain, PL.ev_call, PL.evs_nil, PL.evs_cons, PL.avs_nil, PL.avs_cons, PL.src_of, PL.src_range, PL.src_range2, PL.st_asg_, PL.st_swap_, PL.st_aug_, PL.st_append_, PL.st_hput_, PL.st_happend_, PL.st_expr_, PL.st_if_, PL.st_ret_, PL.st_raise_, PL.st_freeze_, PL.sts_nil, PL.sts_cons, PL.avOf, PL.bind, PL.ret, PL.see, PL.lift, PL.fail, PL.slot, PL.setSl, PL.needD, PL.truthAv, PL.truth, PL.test, PL.runP, PL.gets, PL.Av.get, PL.P.run, PL.addT, PL.G.put, PL.G.puts, PL.Prog.ctx, PL.walkAv, PL.walkOf, PL.wipe, PL.Def.start, PL.Def.run, PL.isOl, PL.isLref, PL.so_lit, PL.so_nil, PL.so_app, PL.so_len, PL.ite_big, PL.ite_bigN, c_shape_of_number, List.replicate, cmpI, h0]
end K55
end
section
set_option linter.all false
set_option maxRecDepth 100000
set_option maxHeartbeats 4000000
/-! M55k: k55 in plain Lean: all rows of brackets. -/
namespace K55
open PySem PL
def zs (l : List (List Nat)) : List D := l.map fun s => .str (so s)
theorem zs_app (a b : List (List Nat)) : zs (a ++ b) = zs a ++ zs b := by simp [zs]
theorem zs_len (a : List (List Nat)) : (zs a).length = a.length := by simp [zs]
theorem B_le : ∀ o l, B o l ≤ 2 ^ (2 * l + o)
  | o, 0 => by
    have : B o 0 = 1 := by simp [B]
    rw [this]
    exact Nat.one_le_two_pow
  | 0, l + 1 => by
    have h := B_le 1 l
    rw [B.eq_2]
    exact Nat.le_trans h (Nat.pow_le_pow_right (by decide) (by omega))
  | o + 1, l + 1 => by
    have h1 := B_le (o + 2) l
    have h2 := B_le o (l + 1)
    rw [B.eq_3]
    have e : 2 * (l + 1) + (o + 1) = 2 * l + (o + 2) + 1 := by omega
    have e2 : 2 * (l + 1) + o = 2 * l + (o + 2) := by omega
    rw [e, Nat.pow_succ]
    rw [e2] at h2
    omega
termination_by o l => 2 * l + o
theorem al_small {o l : Nat} (h : 2 * l + o ≤ 14) : (al o l).length ≤ 16384 := by
  rw [al_len]
  exact Nat.le_trans (B_le o l) (Nat.pow_le_pow_right (n := 2) (by decide) h)
theorem al_mem_len {o l : Nat} {s : List Nat} (h : s ∈ al o l) : s.length = 2 * l + o := by
  obtain ⟨g, e⟩ := (mem_al s o l 0).mpr h
  have := fo_len _ _ _ _ _ _ _ e
  omega
theorem al_eq {o l : Nat} (h : 0 < 2 * l + o) : al o l = (if 0 < l then (al (o + 1) (l - 1)).map (40 :: ·) else []) ++ (if 0 < o then (al (o - 1) l).map (41 :: ·) else []) := by
  cases o with
  | zero =>
    cases l with
    | zero => omega
    | succ l =>
      rw [al.eq_2, if_pos (by omega), if_neg (by omega), List.append_nil]
      rfl
  | succ o =>
    cases l with
    | zero =>
      rw [al.eq_3, if_neg (by omega), if_pos (by omega), List.nil_append]
      rfl
    | succ l =>
      rw [al.eq_4, if_pos (by omega), if_pos (by omega)]
      rfl
theorem all_comp {n a b : Nat} {c : Nat} {e1 e2 : E} {oI lI : Int} {fs : List D} {h : Hs}
    (hc : prog.call n 12 [.int a, .int b] h = .ok (.ol (zs (al a b))) ⟨[], h⟩) (hs : 2 * b + a ≤ 14)
    (h1 : E.ev (prog.ctx n) false e1 ⟨[some (.d (.int oI)), some (.d (.int lI)), some (.ol fs), none], h⟩ = .ok (.d (.int a)) ⟨[some (.d (.int oI)), some (.d (.int lI)), some (.ol fs), none], h⟩)
    (h2 : E.ev (prog.ctx n) false e2 ⟨[some (.d (.int oI)), some (.d (.int lI)), some (.ol fs), none], h⟩ = .ok (.d (.int b)) ⟨[some (.d (.int oI)), some (.d (.int lI)), some (.ol fs), none], h⟩) :
    E.ev (prog.ctx n) false (.comp [3] (.of (.call 12 [e1, e2])) (.nm 3) (.prim .add [.cst (.str ⟨#[c]⟩), .var 3])) ⟨[some (.d (.int oI)), some (.d (.int lI)), some (.ol fs), none], h⟩ = .ok (.ol (zs ((al a b).map (c :: ·)))) ⟨[some (.d (.int oI)), some (.d (.int lI)), some (.ol fs), none], h⟩ := by
  have tu : turns [some (.d (.int oI)), some (.d (.int lI)), some (.ol fs), none] (fun x => PL.bind (G.put (.nm 3) (.d x)) fun _ => PL.bind (E.ev (prog.ctx n) true (.prim .add [.cst (.str ⟨#[c]⟩), .var 3])) fun t => PL.bind (needD t) fun d => PL.ret (some d)) (zs (al a b)) h = .ok ((al a b).map fun s => .str (so (c :: s))) ⟨[some (.d (.int oI)), some (.d (.int lI)), some (.ol fs), none], h⟩ := by
    refine turns_mapT fun s hs => ?_
    have := al_mem_len hs
    simp (disch := first | omega | simp) [PL.ev_var, PL.ev_mv, PL.ev_pop, PL.ev_cst, PL.ev_tup, PL.ev_lst, PL.ev_hlst, PL.ev_hdict, PL.ev_prim, PL.ev_and, PL.ev_or, PL.ev_not, PL.ev_ite, PL.ev_chain, PL.ev_call, PL.evs_nil, PL.evs_cons, PL.avs_nil, PL.avs_cons, PL.src_of, PL.src_range, PL.src_range2, PL.st_asg_, PL.st_swap_, PL.st_aug_, PL.st_append_, PL.st_hput_, PL.st_happend_, PL.st_expr_, PL.st_if_, PL.st_ret_, PL.st_raise_, PL.st_freeze_, PL.sts_nil, PL.sts_cons, PL.avOf, PL.bind, PL.ret, PL.see, PL.lift, PL.fail, PL.slot, PL.setSl, PL.needD, PL.truthAv, PL.truth, PL.test, PL.runP, PL.gets, PL.Av.get, PL.P.run, PL.addT, PL.G.put, PL.G.puts, PL.Prog.ctx, PL.walkAv, PL.walkOf, PL.wipe, PL.Def.start, PL.Def.run, PL.isOl, PL.isLref, PL.so_lit, PL.so_nil, PL.so_app, PL.so_len, PL.ite_big, PL.ite_bigN]
  have em : zs ((al a b).map (c :: ·)) = (al a b).map fun s => .str (so (c :: s)) := by
    unfold zs
    simp
  rw [em]
  refine ev_comp (xs := zs (al a b)) (s1 := ⟨[some (.d (.int oI)), some (.d (.int lI)), some (.ol fs), none], h⟩) (s2 := ⟨[some (.d (.int oI)), some (.d (.int lI)), some (.ol fs), none], h⟩) ?_ (by rw [zs_len]; have := al_small hs; omega) tu
  simp only [PL.Prog.ctx] at h1 h2
  simp [PL.Prog.ctx, PL.src_of, PL.avOf, PL.ev_call, PL.evs_cons, PL.evs_nil, PL.bind, PL.ret, PL.needD, h1, h2, hc, PL.see, PL.walkAv, PL.walkOf]
theorem call_all : ∀ (n o l : Nat) (oI lI : Int) (h : Hs), oI = o → lI = l → 2 * l + o < n → 2 * l + o ≤ 14 → prog.call n 12 [.int oI, .int lI] h = .ok (.ol (zs (al o l))) ⟨[], h⟩
  | 0, o, l, oI, lI, h, _, _, hn, _ => absurd hn (Nat.not_lt_zero _)
  | n + 1, o, l, oI, lI, h, ho, hl, hn, hb => by
    subst ho
    subst hl
    show c_law_all.run (prog.ctx n) [.int o, .int l] h = _
    by_cases hz : 2 * l + o = 0
    · have h1 : o = 0 := by omega
      have h2 : l = 0 := by omega
      subst h1
      subst h2
      rw [al.eq_1]
      have e : zs [[]] = [.str (so [])] := rfl
      rw [e]
      simp (disch := first | omega | simp) [PL.ev_var, PL.ev_mv, PL.ev_pop, PL.ev_cst, PL.ev_tup, PL.ev_lst, PL.ev_hlst, PL.ev_hdict, PL.ev_prim, PL.ev_and, PL.ev_or, PL.ev_not, PL.ev_ite, PL.ev_chain, PL.ev_call, PL.evs_nil, PL.evs_cons, PL.avs_nil, PL.avs_cons, PL.src_of, PL.src_range, PL.src_range2, PL.st_asg_, PL.st_swap_, PL.st_aug_, PL.st_append_, PL.st_hput_, PL.st_happend_, PL.st_expr_, PL.st_if_, PL.st_ret_, PL.st_raise_, PL.st_freeze_, PL.sts_nil, PL.sts_cons, PL.avOf, PL.bind, PL.ret, PL.see, PL.lift, PL.fail, PL.slot, PL.setSl, PL.needD, PL.truthAv, PL.truth, PL.test, PL.runP, PL.gets, PL.Av.get, PL.P.run, PL.addT, PL.G.put, PL.G.puts, PL.Prog.ctx, PL.walkAv, PL.walkOf, PL.wipe, PL.Def.start, PL.Def.run, PL.isOl, PL.isLref, PL.so_lit, PL.so_nil, PL.so_app, PL.so_len, PL.ite_big, PL.ite_bigN, c_law_all, eq_int, blT]
    · have ha := al_eq (o := o) (l := l) (by omega)
      have hsz := al_small hb
      have c1 : 0 < l → ∀ fs, E.ev (prog.ctx n) false (.comp [3] (.of (.call 12 [.prim .add [.var 0, .cst (.int 1)], .prim .sub [.var 1, .cst (.int 1)]])) (.nm 3) (.prim .add [.cst (.str ⟨#[40]⟩), .var 3])) ⟨[some (.d (.int o)), some (.d (.int l)), some (.ol fs), none], h⟩ = .ok (.ol (zs ((al (o + 1) (l - 1)).map (40 :: ·)))) ⟨[some (.d (.int o)), some (.d (.int l)), some (.ol fs), none], h⟩ := by
        intro hl fs
        have e1 : ((o + 1 : Nat) : Int) = (o : Int) + 1 := by omega
        have e2 : ((l - 1 : Nat) : Int) = (l : Int) - 1 := by omega
        exact all_comp (call_all n (o + 1) (l - 1) _ _ h rfl rfl (by omega) (by omega)) (by omega) (by rw [e1]; simp (disch := first | omega | simp) [PL.ev_var, PL.ev_mv, PL.ev_pop, PL.ev_cst, PL.ev_tup, PL.ev_lst, PL.ev_hlst, PL.ev_hdict, PL.ev_prim, PL.ev_and, PL.ev_or, PL.ev_not, PL.ev_ite, PL.ev_chain, PL.ev_call, PL.evs_nil, PL.evs_cons, PL.avs_nil, PL.avs_cons, PL.src_of, PL.src_range, PL.src_range2, PL.st_asg_, PL.st_swap_, PL.st_aug_, PL.st_append_, PL.st_hput_, PL.st_happend_, PL.st_expr_, PL.st_if_, PL.st_ret_, PL.st_raise_, PL.st_freeze_, PL.sts_nil, PL.sts_cons, PL.avOf, PL.bind, PL.ret, PL.see, PL.lift, PL.fail, PL.slot, PL.setSl, PL.needD, PL.truthAv, PL.truth, PL.test, PL.runP, PL.gets, PL.Av.get, PL.P.run, PL.addT, PL.G.put, PL.G.puts, PL.Prog.ctx, PL.walkAv, PL.walkOf, PL.wipe, PL.Def.start, PL.Def.run, PL.isOl, PL.isLref, PL.so_lit, PL.so_nil, PL.so_app, PL.so_len, PL.ite_big, PL.ite_bigN]) (by rw [e2]; simp (disch := first | omega | simp) [PL.ev_var, PL.ev_mv, PL.ev_pop, PL.ev_cst, PL.ev_tup, PL.ev_lst, PL.ev_hlst, PL.ev_hdict, PL.ev_prim, PL.ev_and, PL.ev_or, PL.ev_not, PL.ev_ite, PL.ev_chain, PL.ev_call, PL.evs_nil, PL.evs_cons, PL.avs_nil, PL.avs_cons, PL.src_of, PL.src_range, PL.src_range2, PL.st_asg_, PL.st_swap_, PL.st_aug_, PL.st_append_, PL.st_hput_, PL.st_happend_, PL.st_expr_, PL.st_if_, PL.st_ret_, PL.st_raise_, PL.st_freeze_, PL.sts_nil, PL.sts_cons, PL.avOf, PL.bind, PL.ret, PL.see, PL.lift, PL.fail, PL.slot, PL.setSl, PL.needD, PL.truthAv, PL.truth, PL.test, PL.runP, PL.gets, PL.Av.get, PL.P.run, PL.addT, PL.G.put, PL.G.puts, PL.Prog.ctx, PL.walkAv, PL.walkOf, PL.wipe, PL.Def.start, PL.Def.run, PL.isOl, PL.isLref, PL.so_lit, PL.so_nil, PL.so_app, PL.so_len, PL.ite_big, PL.ite_bigN, opI])
      have c2 : 0 < o → ∀ fs, E.ev (prog.ctx n) false (.comp [3] (.of (.call 12 [.prim .sub [.var 0, .cst (.int 1)], .var 1])) (.nm 3) (.prim .add [.cst (.str ⟨#[41]⟩), .var 3])) ⟨[some (.d (.int o)), some (.d (.int l)), some (.ol fs), none], h⟩ = .ok (.ol (zs ((al (o - 1) l).map (41 :: ·)))) ⟨[some (.d (.int o)), some (.d (.int l)), some (.ol fs), none], h⟩ := by
        intro hl fs
        have e1 : ((o - 1 : Nat) : Int) = (o : Int) - 1 := by omega
        exact all_comp (call_all n (o - 1) l _ _ h rfl rfl (by omega) (by omega)) (by omega) (by rw [e1]; simp (disch := first | omega | simp) [PL.ev_var, PL.ev_mv, PL.ev_pop, PL.ev_cst, PL.ev_tup, PL.ev_lst, PL.ev_hlst, PL.ev_hdict, PL.ev_prim, PL.ev_and, PL.ev_or, PL.ev_not, PL.ev_ite, PL.ev_chain, PL.ev_call, PL.evs_nil, PL.evs_cons, PL.avs_nil, PL.avs_cons, PL.src_of, PL.src_range, PL.src_range2, PL.st_asg_, PL.st_swap_, PL.st_aug_, PL.st_append_, PL.st_hput_, PL.st_happend_, PL.st_expr_, PL.st_if_, PL.st_ret_, PL.st_raise_, PL.st_freeze_, PL.sts_nil, PL.sts_cons, PL.avOf, PL.bind, PL.ret, PL.see, PL.lift, PL.fail, PL.slot, PL.setSl, PL.needD, PL.truthAv, PL.truth, PL.test, PL.runP, PL.gets, PL.Av.get, PL.P.run, PL.addT, PL.G.put, PL.G.puts, PL.Prog.ctx, PL.walkAv, PL.walkOf, PL.wipe, PL.Def.start, PL.Def.run, PL.isOl, PL.isLref, PL.so_lit, PL.so_nil, PL.so_app, PL.so_len, PL.ite_big, PL.ite_bigN, opI]) (by simp (disch := first | omega | simp) [PL.ev_var, PL.ev_mv, PL.ev_pop, PL.ev_cst, PL.ev_tup, PL.ev_lst, PL.ev_hlst, PL.ev_hdict, PL.ev_prim, PL.ev_and, PL.ev_or, PL.ev_not, PL.ev_ite, PL.ev_chain, PL.ev_call, PL.evs_nil, PL.evs_cons, PL.avs_nil, PL.avs_cons, PL.src_of, PL.src_range, PL.src_range2, PL.st_asg_, PL.st_swap_, PL.st_aug_, PL.st_append_, PL.st_hput_, PL.st_happend_, PL.st_expr_, PL.st_if_, PL.st_ret_, PL.st_raise_, PL.st_freeze_, PL.sts_nil, PL.sts_cons, PL.avOf, PL.bind, PL.ret, PL.see, PL.lift, PL.fail, PL.slot, PL.setSl, PL.needD, PL.truthAv, PL.truth, PL.test, PL.runP, PL.gets, PL.Av.get, PL.P.run, PL.addT, PL.G.put, PL.G.puts, PL.Prog.ctx, PL.walkAv, PL.walkOf, PL.wipe, PL.Def.start, PL.Def.run, PL.isOl, PL.isLref, PL.so_lit, PL.so_nil, PL.so_app, PL.so_len, PL.ite_big, PL.ite_bigN])
      simp only [PL.Prog.ctx, PL.so_lit] at c1 c2
      have hadd : ∀ xs ys : List D, xs.length + ys.length < big → addL h (.ol xs) (.ol ys) = some (.ol (xs ++ ys)) := fun xs ys hl => add_ol (h := h) hl
      by_cases hl : 0 < l
      · have hl' : (0 : Int) < l := by omega
        have d1 := c1 hl
        have a1 := hadd [] (zs ((al (o + 1) (l - 1)).map (40 :: ·))) (by
          have := al_small (o := o + 1) (l := l - 1) (by omega)
          rw [zs_len, List.length_map, big_eq]
          simp
          omega)
        rw [List.nil_append] at a1
        rw [if_pos hl] at ha
        by_cases ho : 0 < o
        · have ho' : (0 : Int) < o := by omega
          have d2 := c2 ho
          rw [if_pos ho] at ha
          have a2 := hadd (zs ((al (o + 1) (l - 1)).map (40 :: ·))) (zs ((al (o - 1) l).map (41 :: ·))) (by
            rw [zs_len, zs_len, ← List.length_append, ← ha, big_eq]
            omega)
          rw [← zs_app, ← ha] at a2
          have hne : ¬ o = 0 := by omega
          generalize zs ((al (o + 1) (l - 1)).map (40 :: ·)) = Z1 at *
          generalize zs ((al (o - 1) l).map (41 :: ·)) = Z2 at *
          generalize zs (al o l) = Z3 at *
          simp (disch := first | omega | simp) [PL.ev_var, PL.ev_mv, PL.ev_pop, PL.ev_cst, PL.ev_tup, PL.ev_lst, PL.ev_hlst, PL.ev_hdict, PL.ev_prim, PL.ev_and, PL.ev_or, PL.ev_not, PL.ev_ite, PL.ev_chain, PL.ev_call, PL.evs_nil, PL.evs_cons, PL.avs_nil, PL.avs_cons, PL.src_of, PL.src_range, PL.src_range2, PL.st_asg_, PL.st_swap_, PL.st_aug_, PL.st_append_, PL.st_hput_, PL.st_happend_, PL.st_expr_, PL.st_if_, PL.st_ret_, PL.st_raise_, PL.st_freeze_, PL.sts_nil, PL.sts_cons, PL.avOf, PL.bind, PL.ret, PL.see, PL.lift, PL.fail, PL.slot, PL.setSl, PL.needD, PL.truthAv, PL.truth, PL.test, PL.runP, PL.gets, PL.Av.get, PL.P.run, PL.addT, PL.G.put, PL.G.puts, PL.Prog.ctx, PL.walkAv, PL.walkOf, PL.wipe, PL.Def.start, PL.Def.run, PL.isOl, PL.isLref, PL.so_lit, PL.so_nil, PL.so_app, PL.so_len, PL.ite_big, PL.ite_bigN, c_law_all, List.replicate, eq_int, blT, cmpI, hl, hl', ho, ho', hne, d1, d2, a1, a2]
        · have hne : o = 0 := by omega
          subst hne
          have hnl : ¬ l = 0 := by omega
          rw [if_neg ho, List.append_nil] at ha
          have z0 : ((0 : Nat) : Int) = 0 := rfl
          rw [z0] at d1
          rw [ha]
          generalize zs ((al (0 + 1) (l - 1)).map (40 :: ·)) = Z1 at *
          simp (disch := first | omega | simp) [PL.ev_var, PL.ev_mv, PL.ev_pop, PL.ev_cst, PL.ev_tup, PL.ev_lst, PL.ev_hlst, PL.ev_hdict, PL.ev_prim, PL.ev_and, PL.ev_or, PL.ev_not, PL.ev_ite, PL.ev_chain, PL.ev_call, PL.evs_nil, PL.evs_cons, PL.avs_nil, PL.avs_cons, PL.src_of, PL.src_range, PL.src_range2, PL.st_asg_, PL.st_swap_, PL.st_aug_, PL.st_append_, PL.st_hput_, PL.st_happend_, PL.st_expr_, PL.st_if_, PL.st_ret_, PL.st_raise_, PL.st_freeze_, PL.sts_nil, PL.sts_cons, PL.avOf, PL.bind, PL.ret, PL.see, PL.lift, PL.fail, PL.slot, PL.setSl, PL.needD, PL.truthAv, PL.truth, PL.test, PL.runP, PL.gets, PL.Av.get, PL.P.run, PL.addT, PL.G.put, PL.G.puts, PL.Prog.ctx, PL.walkAv, PL.walkOf, PL.wipe, PL.Def.start, PL.Def.run, PL.isOl, PL.isLref, PL.so_lit, PL.so_nil, PL.so_app, PL.so_len, PL.ite_big, PL.ite_bigN, c_law_all, List.replicate, eq_int, blT, cmpI, hl, hl', hnl, d1, a1]
      · have hl0 : l = 0 := by omega
        subst hl0
        have ho : 0 < o := by omega
        have ho' : (0 : Int) < o := by omega
        have hne : ¬ o = 0 := by omega
        have d2 := c2 ho
        rw [if_neg hl, if_pos ho, List.nil_append] at ha
        have a2 := hadd [] (zs ((al (o - 1) 0).map (41 :: ·))) (by
          have := al_small (o := o - 1) (l := 0) (by omega)
          rw [zs_len, List.length_map, big_eq]
          simp
          omega)
        rw [List.nil_append] at a2
        have z0 : ((0 : Nat) : Int) = 0 := rfl
        rw [z0] at d2
        rw [ha]
        generalize zs ((al (o - 1) 0).map (41 :: ·)) = Z2 at *
        simp (disch := first | omega | simp) [PL.ev_var, PL.ev_mv, PL.ev_pop, PL.ev_cst, PL.ev_tup, PL.ev_lst, PL.ev_hlst, PL.ev_hdict, PL.ev_prim, PL.ev_and, PL.ev_or, PL.ev_not, PL.ev_ite, PL.ev_chain, PL.ev_call, PL.evs_nil, PL.evs_cons, PL.avs_nil, PL.avs_cons, PL.src_of, PL.src_range, PL.src_range2, PL.st_asg_, PL.st_swap_, PL.st_aug_, PL.st_append_, PL.st_hput_, PL.st_happend_, PL.st_expr_, PL.st_if_, PL.st_ret_, PL.st_raise_, PL.st_freeze_, PL.sts_nil, PL.sts_cons, PL.avOf, PL.bind, PL.ret, PL.see, PL.lift, PL.fail, PL.slot, PL.setSl, PL.needD, PL.truthAv, PL.truth, PL.test, PL.runP, PL.gets, PL.Av.get, PL.P.run, PL.addT, PL.G.put, PL.G.puts, PL.Prog.ctx, PL.walkAv, PL.walkOf, PL.wipe, PL.Def.start, PL.Def.run, PL.isOl, PL.isLref, PL.so_lit, PL.so_nil, PL.so_app, PL.so_len, PL.ite_big, PL.ite_bigN, c_law_all, List.replicate, eq_int, blT, cmpI, ho, ho', hne, d2, a2]
end K55
end
section
set_option linter.all false
set_option maxRecDepth 100000
set_option maxHeartbeats 4000000
/-! M55l: k55 in plain Lean: what the law compares. -/
namespace K55
open PySem PL
mutual
theorem eqv_refl : ∀ x : D, x.pure = true → x.eqv x = true
  | .non, _ => rfl
  | .bl _, h => by cases h
  | .int _, _ => by simp [D.eqv]
  | .str _, _ => by simp [D.eqv]
  | .tup xs, h => by
    have := eqvs_refl xs h
    simpa [D.eqv] using this
  | .lst xs, h => by
    have := eqvs_refl xs h
    simpa [D.eqv] using this
  | .scr _, h => by cases h
  | .ref _, h => by cases h
theorem eqvs_refl : ∀ xs : List D, pures xs = true → eqvs xs xs = true
  | [], _ => rfl
  | x :: xs, h => by
    have h : (x.pure && pures xs) = true := h
    rw [Bool.and_eq_true] at h
    show (x.eqv x && eqvs xs xs) = true
    rw [eqv_refl x h.1, eqvs_refl xs h.2]
    rfl
end
mutual
theorem trD_ok : ∀ t : Tr, (trD t).pure = true ∧ (trD t).dep ≤ 2 * dp t
  | .mk l ks => by
    obtain ⟨h1, h2⟩ := trDs_ok ks
    have e1 : (trD (.mk l ks)).pure = pures (trDs ks) := by
      show (true && (pures (trDs ks) && true)) = _
      simp
    have e2 : (trD (.mk l ks)).dep = max 0 (max (deps (trDs ks) + 1) 0) + 1 := rfl
    have e3 : dp (.mk l ks) = dps ks + 1 := rfl
    rw [e1, e2, e3]
    exact ⟨h1, by omega⟩
theorem trDs_ok : ∀ ts : List Tr, pures (trDs ts) = true ∧ deps (trDs ts) ≤ 2 * dps ts
  | [] => ⟨rfl, Nat.le_refl _⟩
  | t :: ts => by
    obtain ⟨h1, h2⟩ := trD_ok t
    obtain ⟨h3, h4⟩ := trDs_ok ts
    have e1 : pures (trDs (t :: ts)) = ((trD t).pure && pures (trDs ts)) := rfl
    have e2 : deps (trDs (t :: ts)) = max (trD t).dep (deps (trDs ts)) := rfl
    have e3 : dps (t :: ts) = max (dp t) (dps ts) := rfl
    rw [e1, e2, e3, h1, h3]
    exact ⟨rfl, by omega⟩
end
theorem eq_tr {ts : List Tr} (h : dps ts ≤ 20) : eqT (.d (.tup (trDs ts))) (.d (.tup (trDs ts))) = some true := by
  obtain ⟨h1, h2⟩ := trDs_ok ts
  have hf : (D.tup (trDs ts)).fit = true := by
    unfold D.fit
    rw [Bool.and_eq_true]
    refine ⟨h1, ?_⟩
    rw [decide_eq_true_eq]
    show deps (trDs ts) + 1 ≤ 60
    omega
  show (match (if (D.tup (trDs ts)).fit then some (D.tup (trDs ts)) else none), (if (D.tup (trDs ts)).fit then some (D.tup (trDs ts)) else none) with
    | some x, some y => some (x.eqv y)
    | _, _ => none) = _
  rw [hf]
  simp only [if_true]
  have : (D.tup (trDs ts)).eqv (D.tup (trDs ts)) = true := eqv_refl _ h1
  rw [this]
theorem zs_pure : ∀ l, pures (zs l) = true ∧ deps (zs l) = 0
  | [] => ⟨rfl, rfl⟩
  | x :: l => by
    obtain ⟨h1, h2⟩ := zs_pure l
    exact ⟨h1, by show max 0 (deps (zs l)) = 0; omega⟩
theorem eq_zs {l : List (List Nat)} : eqT (.ol (zs l)) (.ol (zs l)) = some true := by
  obtain ⟨h1, h2⟩ := zs_pure l
  have hf : (D.lst (zs l)).fit = true := by
    unfold D.fit
    rw [Bool.and_eq_true]
    refine ⟨h1, ?_⟩
    rw [decide_eq_true_eq]
    show deps (zs l) + 1 ≤ 60
    omega
  show (match (if (D.lst (zs l)).fit then some (D.lst (zs l)) else none), (if (D.lst (zs l)).fit then some (D.lst (zs l)) else none) with
    | some x, some y => some (x.eqv y)
    | _, _ => none) = _
  rw [hf]
  simp only [if_true]
  have : (D.lst (zs l)).eqv (D.lst (zs l)) = true := eqv_refl _ h1
  rw [this]
theorem in_zs {b : List Nat} {l : List (List Nat)} {h : Hs} : inT h (.d (.str (so b))) (.ol (zs l)) = some (decide (b ∈ l)) := by
  have h1 : (zs l).all isZ = true := by
    unfold zs
    simp [List.all_map, isZ]
  have h2 : inD (.str (so b)) (zs l) = decide (b ∈ l) := by
    unfold inD zs
    rw [List.any_map]
    induction l with
    | nil => rfl
    | cons x l ih =>
      rw [List.any_cons, ih]
      · have e : ((fun y : D => y.eqv (.str (so b))) ∘ fun s => D.str (so s)) x = decide (x = b) := so_beq x b
        rw [e]
        by_cases hx : x = b
        · subst hx
          simp
        · have hx' : ¬ b = x := fun e => hx e.symm
          simp [hx, hx']
      · unfold zs at h1 ⊢
        simp [List.all_map, isZ]
  show (if (zs l).all isZ then some (inD (.str (so b)) (zs l)) else none) = _
  rw [h1, h2]
  rfl
/-! the list of all is in order -/
def le (a b : List Nat) : Prop := PySem.Spec.ltCps b a = false
theorem le_cons {c : Nat} {a b : List Nat} (h : le a b) : le (c :: a) (c :: b) := by
  unfold le at h ⊢
  show (decide (c < c) || (c == c && PySem.Spec.ltCps b a)) = false
  rw [h]
  simp
theorem le_40 (a b : List Nat) : le (40 :: a) (41 :: b) := rfl
theorem al_ord : ∀ o l, (al o l).Pairwise le
  | 0, 0 => by
    rw [al.eq_1]
    exact List.pairwise_singleton _ _
  | 0, l + 1 => by
    rw [al.eq_2]
    exact (al_ord 1 l).map _ fun a b h => le_cons h
  | o + 1, 0 => by
    rw [al.eq_3]
    exact (al_ord o 0).map _ fun a b h => le_cons h
  | o + 1, l + 1 => by
    rw [al.eq_4]
    refine List.pairwise_append.mpr ⟨(al_ord (o + 2) l).map _ fun a b h => le_cons h, (al_ord o (l + 1)).map _ fun a b h => le_cons h, fun a ha b hb => ?_⟩
    obtain ⟨a', _, rfl⟩ := List.mem_map.mp ha
    obtain ⟨b', _, rfl⟩ := List.mem_map.mp hb
    exact le_40 _ _
termination_by o l => 2 * l + o
theorem sortZ_ord : ∀ l : List (List Nat), l.Pairwise le → sortZ (l.map so) = l.map so
  | [], _ => rfl
  | x :: l, h => by
    have h2 := List.pairwise_cons.mp h
    have ih := sortZ_ord l h2.2
    show insZ (so x) (sortZ (l.map so)) = _
    rw [ih]
    cases l with
    | nil => rfl
    | cons y l =>
      have e : ltZ (so y) (so x) = false := h2.1 y List.mem_cons_self
      show (if ltZ (so y) (so x) then so y :: insZ (so x) (l.map so) else so x :: so y :: l.map so) = _
      rw [e]
      rfl
theorem sort_zs {h : Hs} {o l : Nat} : sortT h (.ol (zs (al o l))) = some (.ol (zs (al o l))) := by
  have e : toStrs (zs (al o l)) = some ((al o l).map so) := toStrs_map _ _
  show (match toStrs (zs (al o l)) with
    | some l => some (T.ol ((sortZ l).map .str))
    | none => none) = _
  rw [e]
  dsimp only
  rw [sortZ_ord _ (al_ord o l)]
  unfold zs
  simp
theorem slT_so {h : Hs} {l u : Option Int} {s : List Nat} (hs : s.length < 100000) : ∃ p, p.length ≤ s.length ∧ slT h l u (.d (.str (so s))) = some (.d (.str (so p))) := by
  refine ⟨(L2.cutS (so s) l u).cps.toList, ?_, ?_⟩
  · have := L2.cutS_length (so s) l u
    rw [so_len] at this
    exact this
  · show (if (so s).length < big then some (T.d (.str (L2.cutS (so s) l u))) else none) = _
    rw [so_len, ite_big hs]
    unfold so
    simp
theorem hd0 : prog.hd 0 = some ⟨1, none, .non⟩ := rfl
theorem ev_tried {C : PL.Ctx} {ro : Bool} {k : Nat} {e : E} : E.ev C ro (.tried k e) = fun s => match C.hd k with
  | none => .bad
  | some h => match E.ev C true e ⟨hide s.sl, s.hp⟩ with
    | .ok (.d x) s' => .ok (.d (match h.onOk with | some y => y | none => x)) ⟨s.sl, s'.hp⟩
    | .ex c hp => if c = h.exc then .ok (.d h.onEx) ⟨s.sl, hp⟩ else .bad
    | _ => .bad := rfl
theorem Tp.app {h : Hs} (g : Hs) (t : Tp h) : Tp (h ++ g) := by
  obtain ⟨cs, k, l, s, q, r, rfl, h2⟩ := t.ex
  exact ⟨cs, k, l, s, q, r ++ g, by simp, h2⟩
end K55
end
section
set_option linter.all false
set_option maxRecDepth 100000
set_option maxHeartbeats 4000000
/-! M55m: k55 in plain Lean: the law's turn. -/
namespace K55
open PySem PL
theorem sts_ok {C : PL.Ctx} {a : PL.St} {r : List PL.St} {s s1 : S} (h : PL.St.ex C a s = .ok .nx s1) : Sts.ex C (a :: r) s = Sts.ex C r s1 := by
  rw [PL.sts_cons]
  unfold PL.bind
  rw [h]
def s1 : PL.St := .asg (.nm 3) (.call 8 [.var 1, .cst (.int 9), .cst (.int 4)])
def s2 : PL.St := .asg (.tup [.nm 9, .nm 10]) (.tup [.call 10 [.var 3], .call 11 [.var 3]])
def s3 : PL.St := .if_ (.or_ (.prim .ne [.call 0 [.var 3], .var 9]) (.or_ (.prim .ne [.call 1 [.var 3], .var 10]) (.prim .ne [.call 2 [.var 9, .var 10], .var 3]))) [.ret (.cst (.bl false))] []
def s4 : PL.St := .asg (.nm 4) (.call 7 [.var 1, .prim .add [.prim .len [.var 9], .cst (.int 1)]])
def s5 : PL.St := .asg (.nm 5) (.prim .idx [.lst [.prim .add [.prim .add [.prim (.sl false true) [.var 9, .var 4], .prim .idx [.cst (.str ⟨#[40, 41]⟩), .call 7 [.var 1, .cst (.int 2)]]], .prim (.sl true false) [.var 9, .prim .add [.var 4, .cst (.int 1)]]], .prim .add [.prim (.sl false true) [.var 9, .var 4], .prim (.sl true false) [.var 9, .prim .add [.var 4, .cst (.int 1)]]], .prim .add [.prim .add [.prim (.sl false true) [.var 9, .var 4], .cst (.str ⟨#[120]⟩)], .prim (.sl true false) [.var 9, .var 4]], .prim .add [.prim .add [.prim (.sl false true) [.var 9, .var 4], .cst (.str ⟨#[120]⟩)], .prim (.sl true false) [.var 9, .prim .add [.var 4, .cst (.int 1)]]]], .call 7 [.var 1, .cst (.int 4)]])
def s6 : PL.St := .asg (.nm 6) (.tried 0 (.call 2 [.var 5, .var 10]))
def s7 : PL.St := .if_ (.or_ (.and_ (.prim .notN [.var 6]) (.or_ (.prim .ne [.call 10 [.var 6], .var 5]) (.prim .ne [.call 11 [.var 6], .var 10]))) (.and_ (.prim .isN [.var 6]) (.prim .eq [.var 5, .var 9]))) [.ret (.cst (.bl false))] []
def s8 : PL.St := .asg (.nm 7) (.tried 0 (.call 4 [.var 5]))
def s9 : PL.St := .asg (.nm 8) (.and_ (.prim .le [.prim .len [.var 5], .cst (.int 10)]) (.and_ (.prim .eq [.prim .mod [.prim .int_ [.prim .len [.var 5]], .cst (.int 2)], .cst (.int 0)]) (.prim .in_ [.var 5, .call 12 [.cst (.int 0), .prim .fdiv [.prim .len [.var 5], .cst (.int 2)]]])))
def s10 : PL.St := .if_ (.and_ (.prim .le [.prim .len [.var 5], .cst (.int 10)]) (.prim .ne [.prim .notN [.var 7], .var 8])) [.ret (.cst (.bl false))] []
def s11 : PL.St := .if_ (.prim .notN [.tried 0 (.call 2 [.var 9, .prim .add [.var 10, .cst (.str ⟨#[97]⟩)]])]) [.ret (.cst (.bl false))] []
section
variable {n : Nat} {sc : D} {c2 c3 c4 c5 c6 c7 c8 c9 c10 c11 c12 c13 c14 : Option T} {h : Hs}
theorem x1 (ht : Tp h) : ∃ ts h', PL.St.ex (prog.ctx (n + 10)) s1 ⟨[some (.d sc), some (.d (.ref 0)), c2, c3, c4, c5, c6, c7, c8, c9, c10, c11, c12, c13, c14], h⟩ = .ok .nx ⟨[some (.d sc), some (.d (.ref 0)), c2, some (.d (.tup (trDs ts))), c4, c5, c6, c7, c8, c9, c10, c11, c12, c13, c14], h'⟩ ∧ Tp h' ∧ (lbs ts).length ≤ 9 ∧ dps ts ≤ 5 := by
  obtain ⟨ts, h', e, t, l, d⟩ := call_rows 4 (n + 10) 4 9 h rfl (by omega) (by omega) (by omega) ht
  refine ⟨ts, h', ?_, t, by omega, d⟩
  unfold s1
  simp (disch := first | omega | simp) [PL.ev_var, PL.ev_mv, PL.ev_pop, PL.ev_cst, PL.ev_tup, PL.ev_lst, PL.ev_hlst, PL.ev_hdict, PL.ev_prim, PL.ev_and, PL.ev_or, PL.ev_not, PL.ev_ite, PL.ev_chain, PL.ev_call, PL.evs_nil, PL.evs_cons, PL.avs_nil, PL.avs_cons, PL.src_of, PL.src_range, PL.src_range2, PL.st_asg_, PL.st_swap_, PL.st_aug_, PL.st_append_, PL.st_hput_, PL.st_happend_, PL.st_expr_, PL.st_if_, PL.st_ret_, PL.st_raise_, PL.st_freeze_, PL.sts_nil, PL.sts_cons, PL.avOf, PL.bind, PL.ret, PL.see, PL.lift, PL.fail, PL.slot, PL.setSl, PL.needD, PL.truthAv, PL.truth, PL.test, PL.runP, PL.gets, PL.Av.get, PL.P.run, PL.addT, PL.G.put, PL.G.puts, PL.Prog.ctx, PL.walkAv, PL.walkOf, PL.wipe, PL.Def.start, PL.Def.run, PL.isOl, PL.isLref, PL.so_lit, PL.so_nil, PL.so_app, PL.so_len, PL.ite_big, PL.ite_bigN, e]
theorem x2 {ts : List Tr} (hl : (lbs ts).length ≤ 9) (hd : dps ts ≤ 5) : PL.St.ex (prog.ctx (n + 10)) s2 ⟨[some (.d sc), some (.d (.ref 0)), c2, some (.d (.tup (trDs ts))), c4, c5, c6, c7, c8, c9, c10, c11, c12, c13, c14], h⟩ = .ok .nx ⟨[some (.d sc), some (.d (.ref 0)), c2, some (.d (.tup (trDs ts))), c4, c5, c6, c7, c8, some (.d (.str (so (sgs ts)))), some (.d (.str (so (lbs ts)))), c11, c12, c13, c14], h⟩ := by
  have hs := lb_len ts
  have e1 := call_law_signs (n + 10) ts h (by omega) (by omega)
  have e2 := call_law_labels (n + 10) ts h (by omega) (by omega)
  unfold s2
  simp (disch := first | omega | simp) [PL.ev_var, PL.ev_mv, PL.ev_pop, PL.ev_cst, PL.ev_tup, PL.ev_lst, PL.ev_hlst, PL.ev_hdict, PL.ev_prim, PL.ev_and, PL.ev_or, PL.ev_not, PL.ev_ite, PL.ev_chain, PL.ev_call, PL.evs_nil, PL.evs_cons, PL.avs_nil, PL.avs_cons, PL.src_of, PL.src_range, PL.src_range2, PL.st_asg_, PL.st_swap_, PL.st_aug_, PL.st_append_, PL.st_hput_, PL.st_happend_, PL.st_expr_, PL.st_if_, PL.st_ret_, PL.st_raise_, PL.st_freeze_, PL.sts_nil, PL.sts_cons, PL.avOf, PL.bind, PL.ret, PL.see, PL.lift, PL.fail, PL.slot, PL.setSl, PL.needD, PL.truthAv, PL.truth, PL.test, PL.runP, PL.gets, PL.Av.get, PL.P.run, PL.addT, PL.G.put, PL.G.puts, PL.Prog.ctx, PL.walkAv, PL.walkOf, PL.wipe, PL.Def.start, PL.Def.run, PL.isOl, PL.isLref, PL.so_lit, PL.so_nil, PL.so_app, PL.so_len, PL.ite_big, PL.ite_bigN, e1, e2]
theorem x3 {ts : List Tr} (hl : (lbs ts).length ≤ 9) (hd : dps ts ≤ 5) : ∃ g, PL.St.ex (prog.ctx (n + 10)) s3 ⟨[some (.d sc), some (.d (.ref 0)), c2, some (.d (.tup (trDs ts))), c4, c5, c6, c7, c8, some (.d (.str (so (sgs ts)))), some (.d (.str (so (lbs ts)))), c11, c12, c13, c14], h⟩ = .ok .nx ⟨[some (.d sc), some (.d (.ref 0)), c2, some (.d (.tup (trDs ts))), c4, c5, c6, c7, c8, some (.d (.str (so (sgs ts)))), some (.d (.str (so (lbs ts)))), c11, c12, c13, c14], h ++ g⟩ := by
  have hs := lb_len ts
  have e1 := call_brackets (n + 10) ts h (by omega) (by omega)
  have e2 := call_labels (n + 10) ts h (by omega) (by omega)
  have hr := rd_of ts (by omega)
  have he := eq_tr (ts := ts) (by omega)
  rcases call_codes (n := n + 9) (ls := lbs ts) (s := sgs ts) (h := h) (by omega) (by omega) with ⟨ts', g, f1, f2⟩ | ⟨f1, g, f2⟩
  · rw [hr] at f1
    cases f1
    refine ⟨g, ?_⟩
    unfold s3
    simp (disch := first | omega | simp) [PL.ev_var, PL.ev_mv, PL.ev_pop, PL.ev_cst, PL.ev_tup, PL.ev_lst, PL.ev_hlst, PL.ev_hdict, PL.ev_prim, PL.ev_and, PL.ev_or, PL.ev_not, PL.ev_ite, PL.ev_chain, PL.ev_call, PL.evs_nil, PL.evs_cons, PL.avs_nil, PL.avs_cons, PL.src_of, PL.src_range, PL.src_range2, PL.st_asg_, PL.st_swap_, PL.st_aug_, PL.st_append_, PL.st_hput_, PL.st_happend_, PL.st_expr_, PL.st_if_, PL.st_ret_, PL.st_raise_, PL.st_freeze_, PL.sts_nil, PL.sts_cons, PL.avOf, PL.bind, PL.ret, PL.see, PL.lift, PL.fail, PL.slot, PL.setSl, PL.needD, PL.truthAv, PL.truth, PL.test, PL.runP, PL.gets, PL.Av.get, PL.P.run, PL.addT, PL.G.put, PL.G.puts, PL.Prog.ctx, PL.walkAv, PL.walkOf, PL.wipe, PL.Def.start, PL.Def.run, PL.isOl, PL.isLref, PL.so_lit, PL.so_nil, PL.so_app, PL.so_len, PL.ite_big, PL.ite_bigN, e1, e2, f2, eq_str, so_beq, blT, he]
  · rw [hr] at f1
    cases f1
theorem x4 {s : List Nat} (hl : s.length ≤ 18) (ht : Tp h) : ∃ d h', PL.St.ex (prog.ctx (n + 10)) s4 ⟨[some (.d sc), some (.d (.ref 0)), c2, c3, c4, c5, c6, c7, c8, some (.d (.str (so s))), c10, c11, c12, c13, c14], h⟩ = .ok .nx ⟨[some (.d sc), some (.d (.ref 0)), c2, c3, some (.d (.int d)), c5, c6, c7, c8, some (.d (.str (so s))), c10, c11, c12, c13, c14], h'⟩ ∧ Tp h' := by
  obtain ⟨d, h', e, t, _⟩ := call_take (n := n + 9) (m := (s.length : Int) + 1) ht (by omega) (by omega)
  refine ⟨d, h', ?_, t⟩
  unfold s4
  simp (disch := first | omega | simp) [PL.ev_var, PL.ev_mv, PL.ev_pop, PL.ev_cst, PL.ev_tup, PL.ev_lst, PL.ev_hlst, PL.ev_hdict, PL.ev_prim, PL.ev_and, PL.ev_or, PL.ev_not, PL.ev_ite, PL.ev_chain, PL.ev_call, PL.evs_nil, PL.evs_cons, PL.avs_nil, PL.avs_cons, PL.src_of, PL.src_range, PL.src_range2, PL.st_asg_, PL.st_swap_, PL.st_aug_, PL.st_append_, PL.st_hput_, PL.st_happend_, PL.st_expr_, PL.st_if_, PL.st_ret_, PL.st_raise_, PL.st_freeze_, PL.sts_nil, PL.sts_cons, PL.avOf, PL.bind, PL.ret, PL.see, PL.lift, PL.fail, PL.slot, PL.setSl, PL.needD, PL.truthAv, PL.truth, PL.test, PL.runP, PL.gets, PL.Av.get, PL.P.run, PL.addT, PL.G.put, PL.G.puts, PL.Prog.ctx, PL.walkAv, PL.walkOf, PL.wipe, PL.Def.start, PL.Def.run, PL.isOl, PL.isLref, PL.so_lit, PL.so_nil, PL.so_app, PL.so_len, PL.ite_big, PL.ite_bigN, lenT_so, e]
theorem pick4 (a b c d : D) (i : Int) (h0 : 0 ≤ i) (h4 : i < 4) (h : Hs) : ∃ x, idxL h (.ol [a, b, c, d]) i = some (.d x) ∧ (x = a ∨ x = b ∨ x = c ∨ x = d) := by
  have : i = 0 ∨ i = 1 ∨ i = 2 ∨ i = 3 := by omega
  rcases this with rfl | rfl | rfl | rfl
  · exact ⟨a, rfl, .inl rfl⟩
  · exact ⟨b, rfl, .inr (.inl rfl)⟩
  · exact ⟨c, rfl, .inr (.inr (.inl rfl))⟩
  · exact ⟨d, rfl, .inr (.inr (.inr rfl))⟩
theorem pick2 (i : Int) (h0 : 0 ≤ i) (h2 : i < 2) : ∃ c, idxZ (⟨#[40, 41]⟩ : Str) i = some (.d (.str (so [c]))) := by
  have e : (⟨#[40, 41]⟩ : Str) = so [40, 41] := rfl
  have : i = ((0 : Nat) : Int) ∨ i = ((1 : Nat) : Int) := by omega
  rw [e]
  rcases this with rfl | rfl
  · exact ⟨40, idxZ_at (ls := [40, 41]) (k := 0) rfl (by decide)⟩
  · exact ⟨41, idxZ_at (ls := [40, 41]) (k := 1) rfl (by decide)⟩
theorem x5 {s : List Nat} {d : Int} (hl : s.length ≤ 18) (ht : Tp h) : ∃ b h', PL.St.ex (prog.ctx (n + 10)) s5 ⟨[some (.d sc), some (.d (.ref 0)), c2, c3, some (.d (.int d)), c5, c6, c7, c8, some (.d (.str (so s))), c10, c11, c12, c13, c14], h⟩ = .ok .nx ⟨[some (.d sc), some (.d (.ref 0)), c2, c3, some (.d (.int d)), some (.d (.str (so b))), c6, c7, c8, some (.d (.str (so s))), c10, c11, c12, c13, c14], h'⟩ ∧ Tp h' ∧ b.length ≤ 100 := by
  obtain ⟨i, h1, e1, t1, i0, i2⟩ := call_take (n := n + 9) (m := 2) ht (by decide) (by decide)
  obtain ⟨j, h2, e2, t2, j0, j4⟩ := call_take (n := n + 9) (m := 4) t1 (by decide) (by decide)
  obtain ⟨c, hc⟩ := pick2 i i0 i2
  obtain ⟨p, lp, hp⟩ : ∃ p, p.length ≤ s.length ∧ ∀ h, slT h none (some d) (.d (.str (so s))) = some (.d (.str (so p))) := by
    obtain ⟨p, a, b⟩ := slT_so (h := []) (l := none) (u := some d) (s := s) (by omega)
    exact ⟨p, a, fun _ => b⟩
  obtain ⟨q, lq, hq⟩ : ∃ p, p.length ≤ s.length ∧ ∀ h, slT h (some (d + 1)) none (.d (.str (so s))) = some (.d (.str (so p))) := by
    obtain ⟨p, a, b⟩ := slT_so (h := []) (l := some (d + 1)) (u := none) (s := s) (by omega)
    exact ⟨p, a, fun _ => b⟩
  obtain ⟨r, lr, hr⟩ : ∃ p, p.length ≤ s.length ∧ ∀ h, slT h (some d) none (.d (.str (so s))) = some (.d (.str (so p))) := by
    obtain ⟨p, a, b⟩ := slT_so (h := []) (l := some d) (u := none) (s := s) (by omega)
    exact ⟨p, a, fun _ => b⟩
  obtain ⟨x, hx, hor⟩ := pick4 (.str (so (p ++ c :: q))) (.str (so (p ++ q))) (.str (so (p ++ 120 :: r))) (.str (so (p ++ 120 :: q))) j j0 j4 h2
  have hb : ∃ b : List Nat, b.length ≤ 100 ∧ x = .str (so b) := by
    rcases hor with rfl | rfl | rfl | rfl
    · exact ⟨_, by simp; omega, rfl⟩
    · exact ⟨_, by simp; omega, rfl⟩
    · exact ⟨_, by simp; omega, rfl⟩
    · exact ⟨_, by simp; omega, rfl⟩
  obtain ⟨b, lb, rfl⟩ := hb
  refine ⟨b, h2, ?_, t2, lb⟩
  unfold s5
  simp (disch := first | omega | simp) [PL.ev_var, PL.ev_mv, PL.ev_pop, PL.ev_cst, PL.ev_tup, PL.ev_lst, PL.ev_hlst, PL.ev_hdict, PL.ev_prim, PL.ev_and, PL.ev_or, PL.ev_not, PL.ev_ite, PL.ev_chain, PL.ev_call, PL.evs_nil, PL.evs_cons, PL.avs_nil, PL.avs_cons, PL.src_of, PL.src_range, PL.src_range2, PL.st_asg_, PL.st_swap_, PL.st_aug_, PL.st_append_, PL.st_hput_, PL.st_happend_, PL.st_expr_, PL.st_if_, PL.st_ret_, PL.st_raise_, PL.st_freeze_, PL.sts_nil, PL.sts_cons, PL.avOf, PL.bind, PL.ret, PL.see, PL.lift, PL.fail, PL.slot, PL.setSl, PL.needD, PL.truthAv, PL.truth, PL.test, PL.runP, PL.gets, PL.Av.get, PL.P.run, PL.addT, PL.G.put, PL.G.puts, PL.Prog.ctx, PL.walkAv, PL.walkOf, PL.wipe, PL.Def.start, PL.Def.run, PL.isOl, PL.isLref, PL.so_lit, PL.so_nil, PL.so_app, PL.so_len, PL.ite_big, PL.ite_bigN, e1, e2, idxT, hc, hp, hq, hr, hx]
theorem x6 {b ls : List Nat} (hb : b.length ≤ 100) (hl : ls.length ≤ 9) : ∃ g, PL.St.ex (prog.ctx (n + 10)) s6 ⟨[some (.d sc), some (.d (.ref 0)), c2, c3, c4, some (.d (.str (so b))), c6, c7, c8, c9, some (.d (.str (so ls))), c11, c12, c13, c14], h⟩ = .ok .nx ⟨[some (.d sc), some (.d (.ref 0)), c2, c3, c4, some (.d (.str (so b))), some (.d (match rd ls b with | some ts => .tup (trDs ts) | none => .non)), c7, c8, c9, some (.d (.str (so ls))), c11, c12, c13, c14], h ++ g⟩ := by
  rcases call_codes (n := n + 9) (ls := ls) (s := b) (h := h) (by omega) (by omega) with ⟨ts', g, f1, f2⟩ | ⟨f1, g, f2⟩
  · refine ⟨g, ?_⟩
    rw [f1]
    unfold s6
    simp (disch := first | omega | simp) [PL.ev_var, PL.ev_mv, PL.ev_pop, PL.ev_cst, PL.ev_tup, PL.ev_lst, PL.ev_hlst, PL.ev_hdict, PL.ev_prim, PL.ev_and, PL.ev_or, PL.ev_not, PL.ev_ite, PL.ev_chain, PL.ev_call, PL.evs_nil, PL.evs_cons, PL.avs_nil, PL.avs_cons, PL.src_of, PL.src_range, PL.src_range2, PL.st_asg_, PL.st_swap_, PL.st_aug_, PL.st_append_, PL.st_hput_, PL.st_happend_, PL.st_expr_, PL.st_if_, PL.st_ret_, PL.st_raise_, PL.st_freeze_, PL.sts_nil, PL.sts_cons, PL.avOf, PL.bind, PL.ret, PL.see, PL.lift, PL.fail, PL.slot, PL.setSl, PL.needD, PL.truthAv, PL.truth, PL.test, PL.runP, PL.gets, PL.Av.get, PL.P.run, PL.addT, PL.G.put, PL.G.puts, PL.Prog.ctx, PL.walkAv, PL.walkOf, PL.wipe, PL.Def.start, PL.Def.run, PL.isOl, PL.isLref, PL.so_lit, PL.so_nil, PL.so_app, PL.so_len, PL.ite_big, PL.ite_bigN, ev_tried, hd0, PL.hide, f2]
  · refine ⟨g, ?_⟩
    rw [f1]
    unfold s6
    simp (disch := first | omega | simp) [PL.ev_var, PL.ev_mv, PL.ev_pop, PL.ev_cst, PL.ev_tup, PL.ev_lst, PL.ev_hlst, PL.ev_hdict, PL.ev_prim, PL.ev_and, PL.ev_or, PL.ev_not, PL.ev_ite, PL.ev_chain, PL.ev_call, PL.evs_nil, PL.evs_cons, PL.avs_nil, PL.avs_cons, PL.src_of, PL.src_range, PL.src_range2, PL.st_asg_, PL.st_swap_, PL.st_aug_, PL.st_append_, PL.st_hput_, PL.st_happend_, PL.st_expr_, PL.st_if_, PL.st_ret_, PL.st_raise_, PL.st_freeze_, PL.sts_nil, PL.sts_cons, PL.avOf, PL.bind, PL.ret, PL.see, PL.lift, PL.fail, PL.slot, PL.setSl, PL.needD, PL.truthAv, PL.truth, PL.test, PL.runP, PL.gets, PL.Av.get, PL.P.run, PL.addT, PL.G.put, PL.G.puts, PL.Prog.ctx, PL.walkAv, PL.walkOf, PL.wipe, PL.Def.start, PL.Def.run, PL.isOl, PL.isLref, PL.so_lit, PL.so_nil, PL.so_app, PL.so_len, PL.ite_big, PL.ite_bigN, ev_tried, hd0, PL.hide, f2]
theorem x7 {ts : List Tr} {b : List Nat} (hb : b.length ≤ 100) (hl : (lbs ts).length ≤ 9) : PL.St.ex (prog.ctx (n + 10)) s7 ⟨[some (.d sc), some (.d (.ref 0)), c2, c3, c4, some (.d (.str (so b))), some (.d (match rd (lbs ts) b with | some ts => .tup (trDs ts) | none => .non)), c7, c8, some (.d (.str (so (sgs ts)))), some (.d (.str (so (lbs ts)))), c11, c12, c13, c14], h⟩ = .ok .nx ⟨[some (.d sc), some (.d (.ref 0)), c2, c3, c4, some (.d (.str (so b))), some (.d (match rd (lbs ts) b with | some ts => .tup (trDs ts) | none => .non)), c7, c8, some (.d (.str (so (sgs ts)))), some (.d (.str (so (lbs ts)))), c11, c12, c13, c14], h⟩ := by
  cases hr : rd (lbs ts) b with
  | none =>
    have hne : ¬ b = sgs ts := by
      intro e
      subst e
      rw [rd_of ts (lb_len ts)] at hr
      cases hr
    unfold s7
    simp (disch := first | omega | simp) [PL.ev_var, PL.ev_mv, PL.ev_pop, PL.ev_cst, PL.ev_tup, PL.ev_lst, PL.ev_hlst, PL.ev_hdict, PL.ev_prim, PL.ev_and, PL.ev_or, PL.ev_not, PL.ev_ite, PL.ev_chain, PL.ev_call, PL.evs_nil, PL.evs_cons, PL.avs_nil, PL.avs_cons, PL.src_of, PL.src_range, PL.src_range2, PL.st_asg_, PL.st_swap_, PL.st_aug_, PL.st_append_, PL.st_hput_, PL.st_happend_, PL.st_expr_, PL.st_if_, PL.st_ret_, PL.st_raise_, PL.st_freeze_, PL.sts_nil, PL.sts_cons, PL.avOf, PL.bind, PL.ret, PL.see, PL.lift, PL.fail, PL.slot, PL.setSl, PL.needD, PL.truthAv, PL.truth, PL.test, PL.runP, PL.gets, PL.Av.get, PL.P.run, PL.addT, PL.G.put, PL.G.puts, PL.Prog.ctx, PL.walkAv, PL.walkOf, PL.wipe, PL.Def.start, PL.Def.run, PL.isOl, PL.isLref, PL.so_lit, PL.so_nil, PL.so_app, PL.so_len, PL.ite_big, PL.ite_bigN, eq_str, so_beq, blT, hne]
  | some ks =>
    obtain ⟨e1, e2⟩ := rd_un lb_len hr
    have hk := dps_lb ks
    have hk2 := lb_len ks
    have hk3 := congrArg List.length e2
    have f1 := call_law_signs (n + 10) ks h (by omega) (by omega)
    have f2 := call_law_labels (n + 10) ks h (by omega) (by omega)
    unfold s7
    simp (disch := first | omega | simp) [PL.ev_var, PL.ev_mv, PL.ev_pop, PL.ev_cst, PL.ev_tup, PL.ev_lst, PL.ev_hlst, PL.ev_hdict, PL.ev_prim, PL.ev_and, PL.ev_or, PL.ev_not, PL.ev_ite, PL.ev_chain, PL.ev_call, PL.evs_nil, PL.evs_cons, PL.avs_nil, PL.avs_cons, PL.src_of, PL.src_range, PL.src_range2, PL.st_asg_, PL.st_swap_, PL.st_aug_, PL.st_append_, PL.st_hput_, PL.st_happend_, PL.st_expr_, PL.st_if_, PL.st_ret_, PL.st_raise_, PL.st_freeze_, PL.sts_nil, PL.sts_cons, PL.avOf, PL.bind, PL.ret, PL.see, PL.lift, PL.fail, PL.slot, PL.setSl, PL.needD, PL.truthAv, PL.truth, PL.test, PL.runP, PL.gets, PL.Av.get, PL.P.run, PL.addT, PL.G.put, PL.G.puts, PL.Prog.ctx, PL.walkAv, PL.walkOf, PL.wipe, PL.Def.start, PL.Def.run, PL.isOl, PL.isLref, PL.so_lit, PL.so_nil, PL.so_app, PL.so_len, PL.ite_big, PL.ite_bigN, f1, f2, e1, e2, eq_str, so_beq, blT]
theorem x8 {b : List Nat} (hb : b.length ≤ 100) : ∃ nr, PL.St.ex (prog.ctx (n + 10)) s8 ⟨[some (.d sc), some (.d (.ref 0)), c2, c3, c4, some (.d (.str (so b))), c6, c7, c8, c9, c10, c11, c12, c13, c14], h⟩ = .ok .nx ⟨[some (.d sc), some (.d (.ref 0)), c2, c3, c4, some (.d (.str (so b))), c6, some (.d nr), c8, c9, c10, c11, c12, c13, c14], h⟩ ∧ ((∃ i, nr = .int i ∧ ∃ f, fo 0 (b.length / 2) 0 b = some (0, 0, f)) ∨ (nr = .non ∧ ∀ f, fo 0 (b.length / 2) 0 b ≠ some (0, 0, f))) := by
  rcases call_number (n := n + 8) (s := b) (h := h) (by omega) with ⟨f, f1, f2⟩ | ⟨f1, f2⟩
  · refine ⟨.int f, ?_, .inl ⟨f, rfl, f, f1⟩⟩
    unfold s8
    simp (disch := first | omega | simp) [PL.ev_var, PL.ev_mv, PL.ev_pop, PL.ev_cst, PL.ev_tup, PL.ev_lst, PL.ev_hlst, PL.ev_hdict, PL.ev_prim, PL.ev_and, PL.ev_or, PL.ev_not, PL.ev_ite, PL.ev_chain, PL.ev_call, PL.evs_nil, PL.evs_cons, PL.avs_nil, PL.avs_cons, PL.src_of, PL.src_range, PL.src_range2, PL.st_asg_, PL.st_swap_, PL.st_aug_, PL.st_append_, PL.st_hput_, PL.st_happend_, PL.st_expr_, PL.st_if_, PL.st_ret_, PL.st_raise_, PL.st_freeze_, PL.sts_nil, PL.sts_cons, PL.avOf, PL.bind, PL.ret, PL.see, PL.lift, PL.fail, PL.slot, PL.setSl, PL.needD, PL.truthAv, PL.truth, PL.test, PL.runP, PL.gets, PL.Av.get, PL.P.run, PL.addT, PL.G.put, PL.G.puts, PL.Prog.ctx, PL.walkAv, PL.walkOf, PL.wipe, PL.Def.start, PL.Def.run, PL.isOl, PL.isLref, PL.so_lit, PL.so_nil, PL.so_app, PL.so_len, PL.ite_big, PL.ite_bigN, ev_tried, hd0, PL.hide, f2]
  · refine ⟨.non, ?_, .inr ⟨rfl, f1⟩⟩
    unfold s8
    simp (disch := first | omega | simp) [PL.ev_var, PL.ev_mv, PL.ev_pop, PL.ev_cst, PL.ev_tup, PL.ev_lst, PL.ev_hlst, PL.ev_hdict, PL.ev_prim, PL.ev_and, PL.ev_or, PL.ev_not, PL.ev_ite, PL.ev_chain, PL.ev_call, PL.evs_nil, PL.evs_cons, PL.avs_nil, PL.avs_cons, PL.src_of, PL.src_range, PL.src_range2, PL.st_asg_, PL.st_swap_, PL.st_aug_, PL.st_append_, PL.st_hput_, PL.st_happend_, PL.st_expr_, PL.st_if_, PL.st_ret_, PL.st_raise_, PL.st_freeze_, PL.sts_nil, PL.sts_cons, PL.avOf, PL.bind, PL.ret, PL.see, PL.lift, PL.fail, PL.slot, PL.setSl, PL.needD, PL.truthAv, PL.truth, PL.test, PL.runP, PL.gets, PL.Av.get, PL.P.run, PL.addT, PL.G.put, PL.G.puts, PL.Prog.ctx, PL.walkAv, PL.walkOf, PL.wipe, PL.Def.start, PL.Def.run, PL.isOl, PL.isLref, PL.so_lit, PL.so_nil, PL.so_app, PL.so_len, PL.ite_big, PL.ite_bigN, ev_tried, hd0, PL.hide, f2]
theorem x9 {b : List Nat} (hb : b.length ≤ 100) : PL.St.ex (prog.ctx (n + 12)) s9 ⟨[some (.d sc), some (.d (.ref 0)), c2, c3, c4, some (.d (.str (so b))), c6, c7, c8, c9, c10, c11, c12, c13, c14], h⟩ = .ok .nx ⟨[some (.d sc), some (.d (.ref 0)), c2, c3, c4, some (.d (.str (so b))), c6, c7, some (.d (.bl (decide (b.length ≤ 10 ∧ b ∈ al 0 (b.length / 2))))), c9, c10, c11, c12, c13, c14], h⟩ := by
  by_cases h10 : b.length ≤ 10
  · have h10' : (b.length : Int) ≤ 10 := by omega
    by_cases he : b.length % 2 = 0
    · have he' : (b.length : Int) % 2 = 0 := by omega
      obtain ⟨t, ht⟩ : ∃ t : Int, (b.length : Int) / 2 = t := ⟨_, rfl⟩
      have ha := call_all (n + 12) 0 (b.length / 2) 0 t h rfl (by omega) (by omega) (by omega)
      unfold s9
      simp (disch := first | omega | simp) [PL.ev_var, PL.ev_mv, PL.ev_pop, PL.ev_cst, PL.ev_tup, PL.ev_lst, PL.ev_hlst, PL.ev_hdict, PL.ev_prim, PL.ev_and, PL.ev_or, PL.ev_not, PL.ev_ite, PL.ev_chain, PL.ev_call, PL.evs_nil, PL.evs_cons, PL.avs_nil, PL.avs_cons, PL.src_of, PL.src_range, PL.src_range2, PL.st_asg_, PL.st_swap_, PL.st_aug_, PL.st_append_, PL.st_hput_, PL.st_happend_, PL.st_expr_, PL.st_if_, PL.st_ret_, PL.st_raise_, PL.st_freeze_, PL.sts_nil, PL.sts_cons, PL.avOf, PL.bind, PL.ret, PL.see, PL.lift, PL.fail, PL.slot, PL.setSl, PL.needD, PL.truthAv, PL.truth, PL.test, PL.runP, PL.gets, PL.Av.get, PL.P.run, PL.addT, PL.G.put, PL.G.puts, PL.Prog.ctx, PL.walkAv, PL.walkOf, PL.wipe, PL.Def.start, PL.Def.run, PL.isOl, PL.isLref, PL.so_lit, PL.so_nil, PL.so_app, PL.so_len, PL.ite_big, PL.ite_bigN, lenT_so, cmpI, h10, h10', he', eq_int, blT, opI, ht, ha, in_zs]
    · have he' : ¬ (b.length : Int) % 2 = 0 := by omega
      have hn : ¬ b ∈ al 0 (b.length / 2) := by
        intro hm
        have := al_mem_len hm
        omega
      unfold s9
      simp (disch := first | omega | simp) [PL.ev_var, PL.ev_mv, PL.ev_pop, PL.ev_cst, PL.ev_tup, PL.ev_lst, PL.ev_hlst, PL.ev_hdict, PL.ev_prim, PL.ev_and, PL.ev_or, PL.ev_not, PL.ev_ite, PL.ev_chain, PL.ev_call, PL.evs_nil, PL.evs_cons, PL.avs_nil, PL.avs_cons, PL.src_of, PL.src_range, PL.src_range2, PL.st_asg_, PL.st_swap_, PL.st_aug_, PL.st_append_, PL.st_hput_, PL.st_happend_, PL.st_expr_, PL.st_if_, PL.st_ret_, PL.st_raise_, PL.st_freeze_, PL.sts_nil, PL.sts_cons, PL.avOf, PL.bind, PL.ret, PL.see, PL.lift, PL.fail, PL.slot, PL.setSl, PL.needD, PL.truthAv, PL.truth, PL.test, PL.runP, PL.gets, PL.Av.get, PL.P.run, PL.addT, PL.G.put, PL.G.puts, PL.Prog.ctx, PL.walkAv, PL.walkOf, PL.wipe, PL.Def.start, PL.Def.run, PL.isOl, PL.isLref, PL.so_lit, PL.so_nil, PL.so_app, PL.so_len, PL.ite_big, PL.ite_bigN, lenT_so, cmpI, h10, h10', he', eq_int, blT, opI, hn]
  · have h10' : ¬ (b.length : Int) ≤ 10 := by omega
    unfold s9
    simp (disch := first | omega | simp) [PL.ev_var, PL.ev_mv, PL.ev_pop, PL.ev_cst, PL.ev_tup, PL.ev_lst, PL.ev_hlst, PL.ev_hdict, PL.ev_prim, PL.ev_and, PL.ev_or, PL.ev_not, PL.ev_ite, PL.ev_chain, PL.ev_call, PL.evs_nil, PL.evs_cons, PL.avs_nil, PL.avs_cons, PL.src_of, PL.src_range, PL.src_range2, PL.st_asg_, PL.st_swap_, PL.st_aug_, PL.st_append_, PL.st_hput_, PL.st_happend_, PL.st_expr_, PL.st_if_, PL.st_ret_, PL.st_raise_, PL.st_freeze_, PL.sts_nil, PL.sts_cons, PL.avOf, PL.bind, PL.ret, PL.see, PL.lift, PL.fail, PL.slot, PL.setSl, PL.needD, PL.truthAv, PL.truth, PL.test, PL.runP, PL.gets, PL.Av.get, PL.P.run, PL.addT, PL.G.put, PL.G.puts, PL.Prog.ctx, PL.walkAv, PL.walkOf, PL.wipe, PL.Def.start, PL.Def.run, PL.isOl, PL.isLref, PL.so_lit, PL.so_nil, PL.so_app, PL.so_len, PL.ite_big, PL.ite_bigN, lenT_so, cmpI, h10, h10']
theorem x10 {b : List Nat} {nr : D} (hb : b.length ≤ 100) (hn : (∃ i, nr = .int i ∧ ∃ f, fo 0 (b.length / 2) 0 b = some (0, 0, f)) ∨ (nr = .non ∧ ∀ f, fo 0 (b.length / 2) 0 b ≠ some (0, 0, f))) : PL.St.ex (prog.ctx (n + 12)) s10 ⟨[some (.d sc), some (.d (.ref 0)), c2, c3, c4, some (.d (.str (so b))), c6, some (.d nr), some (.d (.bl (decide (b.length ≤ 10 ∧ b ∈ al 0 (b.length / 2))))), c9, c10, c11, c12, c13, c14], h⟩ = .ok .nx ⟨[some (.d sc), some (.d (.ref 0)), c2, c3, c4, some (.d (.str (so b))), c6, some (.d nr), some (.d (.bl (decide (b.length ≤ 10 ∧ b ∈ al 0 (b.length / 2))))), c9, c10, c11, c12, c13, c14], h⟩ := by
  have eqb : ∀ x y : Bool, eqT (.d (.bl x)) (.d (.bl y)) = some (x == y) := fun _ _ => rfl
  by_cases h10 : b.length ≤ 10
  · have h10' : (b.length : Int) ≤ 10 := by omega
    rcases hn with ⟨i, rfl, hf⟩ | ⟨rfl, hf⟩
    · have hm := (mem_al b 0 (b.length / 2) 0).mp hf
      unfold s10
      simp (disch := first | omega | simp) [PL.ev_var, PL.ev_mv, PL.ev_pop, PL.ev_cst, PL.ev_tup, PL.ev_lst, PL.ev_hlst, PL.ev_hdict, PL.ev_prim, PL.ev_and, PL.ev_or, PL.ev_not, PL.ev_ite, PL.ev_chain, PL.ev_call, PL.evs_nil, PL.evs_cons, PL.avs_nil, PL.avs_cons, PL.src_of, PL.src_range, PL.src_range2, PL.st_asg_, PL.st_swap_, PL.st_aug_, PL.st_append_, PL.st_hput_, PL.st_happend_, PL.st_expr_, PL.st_if_, PL.st_ret_, PL.st_raise_, PL.st_freeze_, PL.sts_nil, PL.sts_cons, PL.avOf, PL.bind, PL.ret, PL.see, PL.lift, PL.fail, PL.slot, PL.setSl, PL.needD, PL.truthAv, PL.truth, PL.test, PL.runP, PL.gets, PL.Av.get, PL.P.run, PL.addT, PL.G.put, PL.G.puts, PL.Prog.ctx, PL.walkAv, PL.walkOf, PL.wipe, PL.Def.start, PL.Def.run, PL.isOl, PL.isLref, PL.so_lit, PL.so_nil, PL.so_app, PL.so_len, PL.ite_big, PL.ite_bigN, lenT_so, cmpI, h10, h10', eqb, blT, hm]
    · have hm : ¬ b ∈ al 0 (b.length / 2) := fun z => by
        obtain ⟨f, e⟩ := (mem_al b 0 (b.length / 2) 0).mpr z
        exact hf f e
      unfold s10
      simp (disch := first | omega | simp) [PL.ev_var, PL.ev_mv, PL.ev_pop, PL.ev_cst, PL.ev_tup, PL.ev_lst, PL.ev_hlst, PL.ev_hdict, PL.ev_prim, PL.ev_and, PL.ev_or, PL.ev_not, PL.ev_ite, PL.ev_chain, PL.ev_call, PL.evs_nil, PL.evs_cons, PL.avs_nil, PL.avs_cons, PL.src_of, PL.src_range, PL.src_range2, PL.st_asg_, PL.st_swap_, PL.st_aug_, PL.st_append_, PL.st_hput_, PL.st_happend_, PL.st_expr_, PL.st_if_, PL.st_ret_, PL.st_raise_, PL.st_freeze_, PL.sts_nil, PL.sts_cons, PL.avOf, PL.bind, PL.ret, PL.see, PL.lift, PL.fail, PL.slot, PL.setSl, PL.needD, PL.truthAv, PL.truth, PL.test, PL.runP, PL.gets, PL.Av.get, PL.P.run, PL.addT, PL.G.put, PL.G.puts, PL.Prog.ctx, PL.walkAv, PL.walkOf, PL.wipe, PL.Def.start, PL.Def.run, PL.isOl, PL.isLref, PL.so_lit, PL.so_nil, PL.so_app, PL.so_len, PL.ite_big, PL.ite_bigN, lenT_so, cmpI, h10, h10', eqb, blT, hm]
  · have h10' : ¬ (b.length : Int) ≤ 10 := by omega
    unfold s10
    simp (disch := first | omega | simp) [PL.ev_var, PL.ev_mv, PL.ev_pop, PL.ev_cst, PL.ev_tup, PL.ev_lst, PL.ev_hlst, PL.ev_hdict, PL.ev_prim, PL.ev_and, PL.ev_or, PL.ev_not, PL.ev_ite, PL.ev_chain, PL.ev_call, PL.evs_nil, PL.evs_cons, PL.avs_nil, PL.avs_cons, PL.src_of, PL.src_range, PL.src_range2, PL.st_asg_, PL.st_swap_, PL.st_aug_, PL.st_append_, PL.st_hput_, PL.st_happend_, PL.st_expr_, PL.st_if_, PL.st_ret_, PL.st_raise_, PL.st_freeze_, PL.sts_nil, PL.sts_cons, PL.avOf, PL.bind, PL.ret, PL.see, PL.lift, PL.fail, PL.slot, PL.setSl, PL.needD, PL.truthAv, PL.truth, PL.test, PL.runP, PL.gets, PL.Av.get, PL.P.run, PL.addT, PL.G.put, PL.G.puts, PL.Prog.ctx, PL.walkAv, PL.walkOf, PL.wipe, PL.Def.start, PL.Def.run, PL.isOl, PL.isLref, PL.so_lit, PL.so_nil, PL.so_app, PL.so_len, PL.ite_big, PL.ite_bigN, lenT_so, cmpI, h10, h10']
theorem x11 {ts : List Tr} (hl : (lbs ts).length ≤ 9) : ∃ g, PL.St.ex (prog.ctx (n + 10)) s11 ⟨[some (.d sc), some (.d (.ref 0)), c2, c3, c4, c5, c6, c7, c8, some (.d (.str (so (sgs ts)))), some (.d (.str (so (lbs ts)))), c11, c12, c13, c14], h⟩ = .ok .nx ⟨[some (.d sc), some (.d (.ref 0)), c2, c3, c4, c5, c6, c7, c8, some (.d (.str (so (sgs ts)))), some (.d (.str (so (lbs ts)))), c11, c12, c13, c14], h ++ g⟩ := by
  have hs := lb_len ts
  have hn : rd (lbs ts ++ [97]) (sgs ts) = none := by
    unfold rd
    rw [if_neg (by rw [List.length_append]; show ¬ (sgs ts).length = 2 * ((lbs ts).length + 1); omega)]
  rcases call_codes (n := n + 9) (ls := lbs ts ++ [97]) (s := sgs ts) (h := h) (by simp; omega) (by omega) with ⟨ts', g, f1, f2⟩ | ⟨f1, g, f2⟩
  · rw [hn] at f1
    cases f1
  · refine ⟨g, ?_⟩
    unfold s11
    simp (disch := first | omega | simp) [PL.ev_var, PL.ev_mv, PL.ev_pop, PL.ev_cst, PL.ev_tup, PL.ev_lst, PL.ev_hlst, PL.ev_hdict, PL.ev_prim, PL.ev_and, PL.ev_or, PL.ev_not, PL.ev_ite, PL.ev_chain, PL.ev_call, PL.evs_nil, PL.evs_cons, PL.avs_nil, PL.avs_cons, PL.src_of, PL.src_range, PL.src_range2, PL.st_asg_, PL.st_swap_, PL.st_aug_, PL.st_append_, PL.st_hput_, PL.st_happend_, PL.st_expr_, PL.st_if_, PL.st_ret_, PL.st_raise_, PL.st_freeze_, PL.sts_nil, PL.sts_cons, PL.avOf, PL.bind, PL.ret, PL.see, PL.lift, PL.fail, PL.slot, PL.setSl, PL.needD, PL.truthAv, PL.truth, PL.test, PL.runP, PL.gets, PL.Av.get, PL.P.run, PL.addT, PL.G.put, PL.G.puts, PL.Prog.ctx, PL.walkAv, PL.walkOf, PL.wipe, PL.Def.start, PL.Def.run, PL.isOl, PL.isLref, PL.so_lit, PL.so_nil, PL.so_app, PL.so_len, PL.ite_big, PL.ite_bigN, ev_tried, hd0, PL.hide, f2]
end
def turnB : List PL.St := [s1, s2, s3, s4, s5, s6, s7, s8, s9, s10, s11]
theorem turn_ok {n : Nat} {sc : D} {c2 c3 c4 c5 c6 c7 c8 c9 c10 c11 c12 c13 c14 : Option T} {h : Hs} (ht : Tp h) :
    ∃ c3' c4' c5' c6' c7' c8' c9' c10' h', Sts.ex (prog.ctx (n + 12)) turnB ⟨[some (.d sc), some (.d (.ref 0)), c2, c3, c4, c5, c6, c7, c8, c9, c10, c11, c12, c13, c14], h⟩ = .ok .nx ⟨[some (.d sc), some (.d (.ref 0)), c2, c3', c4', c5', c6', c7', c8', c9', c10', c11, c12, c13, c14], h'⟩ ∧ Tp h' := by
  obtain ⟨ts, h1, e1, t1, hl, hd⟩ := @x1 (n + 2) sc c2 c3 c4 c5 c6 c7 c8 c9 c10 c11 c12 c13 c14 h ht
  have hs := lb_len ts
  have e2 := @x2 (n + 2) sc c2 c4 c5 c6 c7 c8 c9 c10 c11 c12 c13 c14 h1 ts hl hd
  obtain ⟨g3, e3⟩ := @x3 (n + 2) sc c2 c4 c5 c6 c7 c8 c11 c12 c13 c14 h1 ts hl hd
  obtain ⟨d, h4, e4, t4⟩ := @x4 (n + 2) sc c2 (some (.d (.tup (trDs ts)))) c4 c5 c6 c7 c8 (some (.d (.str (so (lbs ts))))) c11 c12 c13 c14 _ (sgs ts) (by omega) (t1.app g3)
  obtain ⟨b, h5, e5, t5, hb⟩ := @x5 (n + 2) sc c2 (some (.d (.tup (trDs ts)))) c5 c6 c7 c8 (some (.d (.str (so (lbs ts))))) c11 c12 c13 c14 h4 (sgs ts) d (by omega) t4
  obtain ⟨g6, e6⟩ := @x6 (n + 2) sc c2 (some (.d (.tup (trDs ts)))) (some (.d (.int d))) c6 c7 c8 (some (.d (.str (so (sgs ts))))) c11 c12 c13 c14 h5 b (lbs ts) hb hl
  have e7 := @x7 (n + 2) sc c2 (some (.d (.tup (trDs ts)))) (some (.d (.int d))) c7 c8 c11 c12 c13 c14 (h5 ++ g6) ts b hb hl
  obtain ⟨nr, e8, hn⟩ := @x8 (n + 2) sc c2 (some (.d (.tup (trDs ts)))) (some (.d (.int d))) (some (.d (match rd (lbs ts) b with | some ts => .tup (trDs ts) | none => .non))) c7 c8 (some (.d (.str (so (sgs ts))))) (some (.d (.str (so (lbs ts))))) c11 c12 c13 c14 (h5 ++ g6) b hb
  have e9 := @x9 n sc c2 (some (.d (.tup (trDs ts)))) (some (.d (.int d))) (some (.d (match rd (lbs ts) b with | some ts => .tup (trDs ts) | none => .non))) (some (.d nr)) c8 (some (.d (.str (so (sgs ts))))) (some (.d (.str (so (lbs ts))))) c11 c12 c13 c14 (h5 ++ g6) b hb
  have e10 := @x10 n sc c2 (some (.d (.tup (trDs ts)))) (some (.d (.int d))) (some (.d (match rd (lbs ts) b with | some ts => .tup (trDs ts) | none => .non))) (some (.d (.str (so (sgs ts))))) (some (.d (.str (so (lbs ts))))) c11 c12 c13 c14 (h5 ++ g6) b nr hb hn
  obtain ⟨g11, e11⟩ := @x11 (n + 2) sc c2 (some (.d (.tup (trDs ts)))) (some (.d (.int d))) (some (.d (.str (so b)))) (some (.d (match rd (lbs ts) b with | some ts => .tup (trDs ts) | none => .non))) (some (.d nr)) (some (.d (.bl (decide (b.length ≤ 10 ∧ b ∈ al 0 (b.length / 2)))))) c11 c12 c13 c14 (h5 ++ g6) ts hl
  refine ⟨some (.d (.tup (trDs ts))), some (.d (.int d)), some (.d (.str (so b))), some (.d (match rd (lbs ts) b with | some ts => .tup (trDs ts) | none => .non)), some (.d nr), some (.d (.bl (decide (b.length ≤ 10 ∧ b ∈ al 0 (b.length / 2))))), some (.d (.str (so (sgs ts)))), some (.d (.str (so (lbs ts)))), h5 ++ g6 ++ g11, ?_, (t5.app g6).app g11⟩
  unfold turnB
  rw [sts_ok e1, sts_ok e2, sts_ok e3, sts_ok e4, sts_ok e5, sts_ok e6, sts_ok e7, sts_ok e8, sts_ok e9, sts_ok e10, sts_ok e11]
  rfl
end K55
end
section
set_option linter.all false
set_option maxRecDepth 100000
set_option maxHeartbeats 4000000
/-! M55n: k55 in plain Lean: the law. -/
namespace K55
open PySem PL
def y3 : PL.St := .asg (.nm 11) (.call 7 [.var 1, .cst (.int 7)])
def y4 : PL.St := .asg (.nm 12) (.call 12 [.cst (.int 0), .var 11])
def y5 : PL.St := .asg (.nm 13) (.call 7 [.var 1, .prim .len [.var 12]])
def y6 : PL.St := .if_ (.or_ (.prim .ne [.call 4 [.prim .idx [.var 12, .var 13]], .var 13]) (.or_ (.prim .ne [.call 5 [.var 11, .var 13], .prim .idx [.var 12, .var 13]]) (.prim .ne [.var 12, .prim .sorted [.var 12]]))) [.ret (.cst (.bl false))] []
def y7 : PL.St := .asg (.nm 14) (.prim .len [.var 12])
def y8 : PL.St := .if_ (.prim .notN [.tried 0 (.call 5 [.var 11, .var 14])]) [.ret (.cst (.bl false))] []
def y9 : PL.St := .asg (.nm 7) (.call 7 [.var 1, .prim .pow [.cst (.int 10), .cst (.int 9)]])
def y10 : PL.St := .ret (.and_ (.prim .eq [.call 4 [.call 5 [.cst (.int 40), .var 7]], .var 7]) (.prim .isN [.tried 0 (.call 5 [.cst (.int 3), .prim .sub [.cst (.int 0), .cst (.int 1)]])]))
theorem c_law_eq : c_law = ⟨1, 15, [.asg (.nm 1) (.call 6 [.var 0]), .for_ (.nm 2) (.range (.cst (.int 2))) turnB, y3, y4, y5, y6, y7, y8, y9, y10]⟩ := rfl
theorem rg2 : rangeT (.d (.int 0)) (.d (.int 2)) = some (upI 0 2) := by
  show (if -(big : Int) < 0 ∧ (0 : Int) < big ∧ -(big : Int) < 2 ∧ (2 : Int) < big then some (upI 0 2) else none) = _
  rw [if_pos (by rw [big_eq]; omega)]
section
variable {n : Nat} {sc : D} {c2 c3 c4 c5 c6 c7 c8 c9 c10 c11 c12 c13 c14 : Option T} {h : Hs}
theorem z2 (ht : Tp h) : ∃ c2' c3' c4' c5' c6' c7' c8' c9' c10' h', PL.St.ex (prog.ctx (n + 12)) (.for_ (.nm 2) (.range (.cst (.int 2))) turnB) ⟨[some (.d sc), some (.d (.ref 0)), c2, c3, c4, c5, c6, c7, c8, c9, c10, c11, c12, c13, c14], h⟩ = .ok .nx ⟨[some (.d sc), some (.d (.ref 0)), c2', c3', c4', c5', c6', c7', c8', c9', c10', c11, c12, c13, c14], h'⟩ ∧ Tp h' := by
  have go := forM_up (f := fun x => PL.bind (G.put (.nm 2) (.d x)) fun _ => Sts.ex (prog.ctx (n + 12)) turnB) (b := 2)
    (I := fun _ s => ∃ c2' c3' c4' c5' c6' c7' c8' c9' c10' h', s = (⟨[some (.d sc), some (.d (.ref 0)), c2', c3', c4', c5', c6', c7', c8', c9', c10', c11, c12, c13, c14], h'⟩ : S) ∧ Tp h') 2 0 ⟨[some (.d sc), some (.d (.ref 0)), c2, c3, c4, c5, c6, c7, c8, c9, c10, c11, c12, c13, c14], h⟩
    (fun j s _ _ hI => by
      obtain ⟨c2, c3, c4, c5, c6, c7, c8, c9, c10, h, rfl, ht⟩ := hI
      obtain ⟨c3', c4', c5', c6', c7', c8', c9', c10', h', e, t⟩ := turn_ok (n := n) (sc := sc) (c2 := some (.d (.int (j : Int)))) (c3 := c3) (c4 := c4) (c5 := c5) (c6 := c6) (c7 := c7) (c8 := c8) (c9 := c9) (c10 := c10) (c11 := c11) (c12 := c12) (c13 := c13) (c14 := c14) ht
      exact ⟨_, e, _, _, _, _, _, _, _, _, _, _, rfl, t⟩) rfl ⟨_, _, _, _, _, _, _, _, _, _, rfl, ht⟩
  obtain ⟨s', e, c2', c3', c4', c5', c6', c7', c8', c9', c10', h', rfl, t⟩ := go
  refine ⟨c2', c3', c4', c5', c6', c7', c8', c9', c10', h', ?_, t⟩
  rw [PL.st_for_]
  have hs : Src.ev (prog.ctx (n + 12)) false false (.range (.cst (.int 2))) ⟨[some (.d sc), some (.d (.ref 0)), c2, c3, c4, c5, c6, c7, c8, c9, c10, c11, c12, c13, c14], h⟩ = .ok (upI 0 2) ⟨[some (.d sc), some (.d (.ref 0)), c2, c3, c4, c5, c6, c7, c8, c9, c10, c11, c12, c13, c14], h⟩ := by
    simp (disch := first | omega | simp) [PL.ev_var, PL.ev_mv, PL.ev_pop, PL.ev_cst, PL.ev_tup, PL.ev_lst, PL.ev_hlst, PL.ev_hdict, PL.ev_prim, PL.ev_and, PL.ev_or, PL.ev_not, PL.ev_ite, PL.ev_chain, PL.ev_call, PL.evs_nil, PL.evs_cons, PL.avs_nil, PL.avs_cons, PL.src_of, PL.src_range, PL.src_range2, PL.st_asg_, PL.st_swap_, PL.st_aug_, PL.st_append_, PL.st_hput_, PL.st_happend_, PL.st_expr_, PL.st_if_, PL.st_ret_, PL.st_raise_, PL.st_freeze_, PL.sts_nil, PL.sts_cons, PL.avOf, PL.bind, PL.ret, PL.see, PL.lift, PL.fail, PL.slot, PL.setSl, PL.needD, PL.truthAv, PL.truth, PL.test, PL.runP, PL.gets, PL.Av.get, PL.P.run, PL.addT, PL.G.put, PL.G.puts, PL.Prog.ctx, PL.walkAv, PL.walkOf, PL.wipe, PL.Def.start, PL.Def.run, PL.isOl, PL.isLref, PL.so_lit, PL.so_nil, PL.so_app, PL.so_len, PL.ite_big, PL.ite_bigN, rg2]
  unfold PL.bind
  rw [hs]
  exact e
theorem z3 (ht : Tp h) : ∃ d h', PL.St.ex (prog.ctx (n + 12)) y3 ⟨[some (.d sc), some (.d (.ref 0)), c2, c3, c4, c5, c6, c7, c8, c9, c10, c11, c12, c13, c14], h⟩ = .ok .nx ⟨[some (.d sc), some (.d (.ref 0)), c2, c3, c4, c5, c6, c7, c8, c9, c10, some (.d (.int d)), c12, c13, c14], h'⟩ ∧ Tp h' ∧ 0 ≤ d ∧ d < 7 := by
  obtain ⟨d, h', e, t, d0, d7⟩ := call_take (n := n + 11) (m := 7) ht (by decide) (by decide)
  refine ⟨d, h', ?_, t, d0, d7⟩
  unfold y3
  simp (disch := first | omega | simp) [PL.ev_var, PL.ev_mv, PL.ev_pop, PL.ev_cst, PL.ev_tup, PL.ev_lst, PL.ev_hlst, PL.ev_hdict, PL.ev_prim, PL.ev_and, PL.ev_or, PL.ev_not, PL.ev_ite, PL.ev_chain, PL.ev_call, PL.evs_nil, PL.evs_cons, PL.avs_nil, PL.avs_cons, PL.src_of, PL.src_range, PL.src_range2, PL.st_asg_, PL.st_swap_, PL.st_aug_, PL.st_append_, PL.st_hput_, PL.st_happend_, PL.st_expr_, PL.st_if_, PL.st_ret_, PL.st_raise_, PL.st_freeze_, PL.sts_nil, PL.sts_cons, PL.avOf, PL.bind, PL.ret, PL.see, PL.lift, PL.fail, PL.slot, PL.setSl, PL.needD, PL.truthAv, PL.truth, PL.test, PL.runP, PL.gets, PL.Av.get, PL.P.run, PL.addT, PL.G.put, PL.G.puts, PL.Prog.ctx, PL.walkAv, PL.walkOf, PL.wipe, PL.Def.start, PL.Def.run, PL.isOl, PL.isLref, PL.so_lit, PL.so_nil, PL.so_app, PL.so_len, PL.ite_big, PL.ite_bigN, e]
theorem z4 {t : Nat} (h7 : t < 7) : PL.St.ex (prog.ctx (n + 13)) y4 ⟨[some (.d sc), some (.d (.ref 0)), c2, c3, c4, c5, c6, c7, c8, c9, c10, some (.d (.int (t : Int))), c12, c13, c14], h⟩ = .ok .nx ⟨[some (.d sc), some (.d (.ref 0)), c2, c3, c4, c5, c6, c7, c8, c9, c10, some (.d (.int (t : Int))), some (.ol (zs (al 0 t))), c13, c14], h⟩ := by
  have e := call_all (n + 13) 0 t 0 t h rfl rfl (by omega) (by omega)
  unfold y4
  simp (disch := first | omega | simp) [PL.ev_var, PL.ev_mv, PL.ev_pop, PL.ev_cst, PL.ev_tup, PL.ev_lst, PL.ev_hlst, PL.ev_hdict, PL.ev_prim, PL.ev_and, PL.ev_or, PL.ev_not, PL.ev_ite, PL.ev_chain, PL.ev_call, PL.evs_nil, PL.evs_cons, PL.avs_nil, PL.avs_cons, PL.src_of, PL.src_range, PL.src_range2, PL.st_asg_, PL.st_swap_, PL.st_aug_, PL.st_append_, PL.st_hput_, PL.st_happend_, PL.st_expr_, PL.st_if_, PL.st_ret_, PL.st_raise_, PL.st_freeze_, PL.sts_nil, PL.sts_cons, PL.avOf, PL.bind, PL.ret, PL.see, PL.lift, PL.fail, PL.slot, PL.setSl, PL.needD, PL.truthAv, PL.truth, PL.test, PL.runP, PL.gets, PL.Av.get, PL.P.run, PL.addT, PL.G.put, PL.G.puts, PL.Prog.ctx, PL.walkAv, PL.walkOf, PL.wipe, PL.Def.start, PL.Def.run, PL.isOl, PL.isLref, PL.so_lit, PL.so_nil, PL.so_app, PL.so_len, PL.ite_big, PL.ite_bigN, e]
theorem z5 {t : Nat} (h7 : t < 7) (ht : Tp h) : ∃ k h', PL.St.ex (prog.ctx (n + 12)) y5 ⟨[some (.d sc), some (.d (.ref 0)), c2, c3, c4, c5, c6, c7, c8, c9, c10, c11, some (.ol (zs (al 0 t))), c13, c14], h⟩ = .ok .nx ⟨[some (.d sc), some (.d (.ref 0)), c2, c3, c4, c5, c6, c7, c8, c9, c10, c11, some (.ol (zs (al 0 t))), some (.d (.int k)), c14], h'⟩ ∧ Tp h' ∧ 0 ≤ k ∧ k < (B 0 t : Nat) := by
  have hb := B_pos 0 t
  have hb2 := al_small (o := 0) (l := t) (by omega)
  rw [al_len] at hb2
  obtain ⟨d, h', e, t', d0, d7⟩ := call_take (n := n + 11) (m := (B 0 t : Nat)) ht (by omega) (by omega)
  refine ⟨d, h', ?_, t', d0, d7⟩
  have hl : (zs (al 0 t)).length = B 0 t := by rw [zs_len, al_len]
  unfold y5
  simp (disch := first | omega | simp) [PL.ev_var, PL.ev_mv, PL.ev_pop, PL.ev_cst, PL.ev_tup, PL.ev_lst, PL.ev_hlst, PL.ev_hdict, PL.ev_prim, PL.ev_and, PL.ev_or, PL.ev_not, PL.ev_ite, PL.ev_chain, PL.ev_call, PL.evs_nil, PL.evs_cons, PL.avs_nil, PL.avs_cons, PL.src_of, PL.src_range, PL.src_range2, PL.st_asg_, PL.st_swap_, PL.st_aug_, PL.st_append_, PL.st_hput_, PL.st_happend_, PL.st_expr_, PL.st_if_, PL.st_ret_, PL.st_raise_, PL.st_freeze_, PL.sts_nil, PL.sts_cons, PL.avOf, PL.bind, PL.ret, PL.see, PL.lift, PL.fail, PL.slot, PL.setSl, PL.needD, PL.truthAv, PL.truth, PL.test, PL.runP, PL.gets, PL.Av.get, PL.P.run, PL.addT, PL.G.put, PL.G.puts, PL.Prog.ctx, PL.walkAv, PL.walkOf, PL.wipe, PL.Def.start, PL.Def.run, PL.isOl, PL.isLref, PL.so_lit, PL.so_nil, PL.so_app, PL.so_len, PL.ite_big, PL.ite_bigN, lenT_ol, hl, e]
theorem nth {t k : Nat} (hk : k < B 0 t) (h : Hs) : idxL h (.ol (zs (al 0 t))) (k : Int) = some (.d (.str (so (un 0 t k)))) := by
  refine idx_ol ?_
  unfold zs
  rw [List.getElem?_map, al_un 0 t k hk]
  rfl
theorem num_un {t k : Nat} (ht : t ≤ 40) (hk : k < B 0 t) : prog.call (n + 2) 4 [.str (so (un 0 t k))] h = .ok (.d (.int (k : Nat))) ⟨[], h⟩ := by
  have hl := un_len 0 t k
  have hf := fo_un 0 t k 0 hk
  have e : (un 0 t k).length / 2 = t := by omega
  rcases call_number (n := n) (s := un 0 t k) (h := h) (by omega) with ⟨f, f1, f2⟩ | ⟨f1, f2⟩
  · rw [e, hf] at f1
    cases f1
    rw [Nat.zero_add] at f2
    exact f2
  · rw [e] at f1
    exact absurd hf (f1 _)
theorem z6 {t k : Nat} (h7 : t < 7) (hk : k < B 0 t) : PL.St.ex (prog.ctx (n + 12)) y6 ⟨[some (.d sc), some (.d (.ref 0)), c2, c3, c4, c5, c6, c7, c8, c9, c10, some (.d (.int (t : Int))), some (.ol (zs (al 0 t))), some (.d (.int (k : Int))), c14], h⟩ = .ok .nx ⟨[some (.d sc), some (.d (.ref 0)), c2, c3, c4, c5, c6, c7, c8, c9, c10, some (.d (.int (t : Int))), some (.ol (zs (al 0 t))), some (.d (.int (k : Int))), c14], h⟩ := by
  have e1 := num_un (n := n + 10) (h := h) (by omega) hk
  have e2 := call_of (n := n + 10) (t := t) (m := (k : Int)) (h := h) (by omega)
  rw [if_pos ⟨by omega, by omega⟩] at e2
  have et : ((k : Int)).toNat = k := by omega
  rw [et] at e2
  have e3 := nth hk
  unfold y6
  simp (disch := first | omega | simp) [PL.ev_var, PL.ev_mv, PL.ev_pop, PL.ev_cst, PL.ev_tup, PL.ev_lst, PL.ev_hlst, PL.ev_hdict, PL.ev_prim, PL.ev_and, PL.ev_or, PL.ev_not, PL.ev_ite, PL.ev_chain, PL.ev_call, PL.evs_nil, PL.evs_cons, PL.avs_nil, PL.avs_cons, PL.src_of, PL.src_range, PL.src_range2, PL.st_asg_, PL.st_swap_, PL.st_aug_, PL.st_append_, PL.st_hput_, PL.st_happend_, PL.st_expr_, PL.st_if_, PL.st_ret_, PL.st_raise_, PL.st_freeze_, PL.sts_nil, PL.sts_cons, PL.avOf, PL.bind, PL.ret, PL.see, PL.lift, PL.fail, PL.slot, PL.setSl, PL.needD, PL.truthAv, PL.truth, PL.test, PL.runP, PL.gets, PL.Av.get, PL.P.run, PL.addT, PL.G.put, PL.G.puts, PL.Prog.ctx, PL.walkAv, PL.walkOf, PL.wipe, PL.Def.start, PL.Def.run, PL.isOl, PL.isLref, PL.so_lit, PL.so_nil, PL.so_app, PL.so_len, PL.ite_big, PL.ite_bigN, idxT, e3, e1, e2, eq_int, eq_str, so_beq, blT, eq_zs, sort_zs]
theorem z7 {t : Nat} : PL.St.ex (prog.ctx (n + 12)) y7 ⟨[some (.d sc), some (.d (.ref 0)), c2, c3, c4, c5, c6, c7, c8, c9, c10, c11, some (.ol (zs (al 0 t))), c13, c14], h⟩ = .ok .nx ⟨[some (.d sc), some (.d (.ref 0)), c2, c3, c4, c5, c6, c7, c8, c9, c10, c11, some (.ol (zs (al 0 t))), c13, some (.d (.int (B 0 t : Nat)))], h⟩ := by
  have hl : (zs (al 0 t)).length = B 0 t := by rw [zs_len, al_len]
  unfold y7
  simp (disch := first | omega | simp) [PL.ev_var, PL.ev_mv, PL.ev_pop, PL.ev_cst, PL.ev_tup, PL.ev_lst, PL.ev_hlst, PL.ev_hdict, PL.ev_prim, PL.ev_and, PL.ev_or, PL.ev_not, PL.ev_ite, PL.ev_chain, PL.ev_call, PL.evs_nil, PL.evs_cons, PL.avs_nil, PL.avs_cons, PL.src_of, PL.src_range, PL.src_range2, PL.st_asg_, PL.st_swap_, PL.st_aug_, PL.st_append_, PL.st_hput_, PL.st_happend_, PL.st_expr_, PL.st_if_, PL.st_ret_, PL.st_raise_, PL.st_freeze_, PL.sts_nil, PL.sts_cons, PL.avOf, PL.bind, PL.ret, PL.see, PL.lift, PL.fail, PL.slot, PL.setSl, PL.needD, PL.truthAv, PL.truth, PL.test, PL.runP, PL.gets, PL.Av.get, PL.P.run, PL.addT, PL.G.put, PL.G.puts, PL.Prog.ctx, PL.walkAv, PL.walkOf, PL.wipe, PL.Def.start, PL.Def.run, PL.isOl, PL.isLref, PL.so_lit, PL.so_nil, PL.so_app, PL.so_len, PL.ite_big, PL.ite_bigN, lenT_ol, hl]
theorem z8 {t : Nat} (h7 : t < 7) : PL.St.ex (prog.ctx (n + 12)) y8 ⟨[some (.d sc), some (.d (.ref 0)), c2, c3, c4, c5, c6, c7, c8, c9, c10, some (.d (.int (t : Int))), c12, c13, some (.d (.int (B 0 t : Nat)))], h⟩ = .ok .nx ⟨[some (.d sc), some (.d (.ref 0)), c2, c3, c4, c5, c6, c7, c8, c9, c10, some (.d (.int (t : Int))), c12, c13, some (.d (.int (B 0 t : Nat)))], h⟩ := by
  have e2 := call_of (n := n + 10) (t := t) (m := (B 0 t : Nat)) (h := h) (by omega)
  rw [if_neg (by omega)] at e2
  unfold y8
  simp (disch := first | omega | simp) [PL.ev_var, PL.ev_mv, PL.ev_pop, PL.ev_cst, PL.ev_tup, PL.ev_lst, PL.ev_hlst, PL.ev_hdict, PL.ev_prim, PL.ev_and, PL.ev_or, PL.ev_not, PL.ev_ite, PL.ev_chain, PL.ev_call, PL.evs_nil, PL.evs_cons, PL.avs_nil, PL.avs_cons, PL.src_of, PL.src_range, PL.src_range2, PL.st_asg_, PL.st_swap_, PL.st_aug_, PL.st_append_, PL.st_hput_, PL.st_happend_, PL.st_expr_, PL.st_if_, PL.st_ret_, PL.st_raise_, PL.st_freeze_, PL.sts_nil, PL.sts_cons, PL.avOf, PL.bind, PL.ret, PL.see, PL.lift, PL.fail, PL.slot, PL.setSl, PL.needD, PL.truthAv, PL.truth, PL.test, PL.runP, PL.gets, PL.Av.get, PL.P.run, PL.addT, PL.G.put, PL.G.puts, PL.Prog.ctx, PL.walkAv, PL.walkOf, PL.wipe, PL.Def.start, PL.Def.run, PL.isOl, PL.isLref, PL.so_lit, PL.so_nil, PL.so_app, PL.so_len, PL.ite_big, PL.ite_bigN, ev_tried, hd0, PL.hide, e2]
theorem z9 (ht : Tp h) : ∃ d h', PL.St.ex (prog.ctx (n + 12)) y9 ⟨[some (.d sc), some (.d (.ref 0)), c2, c3, c4, c5, c6, c7, c8, c9, c10, c11, c12, c13, c14], h⟩ = .ok .nx ⟨[some (.d sc), some (.d (.ref 0)), c2, c3, c4, c5, c6, some (.d (.int d)), c8, c9, c10, c11, c12, c13, c14], h'⟩ ∧ 0 ≤ d ∧ d < 1000000000 := by
  obtain ⟨d, h', e, t, d0, d7⟩ := call_take (n := n + 11) (m := 1000000000) ht (by decide) (by decide)
  refine ⟨d, h', ?_, d0, d7⟩
  unfold y9
  simp (disch := first | omega | simp) [PL.ev_var, PL.ev_mv, PL.ev_pop, PL.ev_cst, PL.ev_tup, PL.ev_lst, PL.ev_hlst, PL.ev_hdict, PL.ev_prim, PL.ev_and, PL.ev_or, PL.ev_not, PL.ev_ite, PL.ev_chain, PL.ev_call, PL.evs_nil, PL.evs_cons, PL.avs_nil, PL.avs_cons, PL.src_of, PL.src_range, PL.src_range2, PL.st_asg_, PL.st_swap_, PL.st_aug_, PL.st_append_, PL.st_hput_, PL.st_happend_, PL.st_expr_, PL.st_if_, PL.st_ret_, PL.st_raise_, PL.st_freeze_, PL.sts_nil, PL.sts_cons, PL.avOf, PL.bind, PL.ret, PL.see, PL.lift, PL.fail, PL.slot, PL.setSl, PL.needD, PL.truthAv, PL.truth, PL.test, PL.runP, PL.gets, PL.Av.get, PL.P.run, PL.addT, PL.G.put, PL.G.puts, PL.Prog.ctx, PL.walkAv, PL.walkOf, PL.wipe, PL.Def.start, PL.Def.run, PL.isOl, PL.isLref, PL.so_lit, PL.so_nil, PL.so_app, PL.so_len, PL.ite_big, PL.ite_bigN, opI, e]
end
end K55
end
section
set_option linter.all false
set_option maxRecDepth 100000
set_option maxHeartbeats 4000000
/-! M55n: k55 in plain Lean: the law. -/
namespace K55
open PySem PL

section
variable {n : Nat} {sc : D} {c2 c3 c4 c5 c6 c7 c8 c9 c10 c11 c12 c13 c14 : Option T} {h : Hs}
theorem ta {k : Nat} (hk : k < 1000000000) : k < B 0 40 := Nat.lt_of_lt_of_le hk B_40
theorem tb1 {k : Nat} (hk : k < 1000000000) : prog.call (n + 12) 4 [.str (so (un 0 40 k))] h = .ok (.d (.int (k : Nat))) ⟨[], h⟩ := num_un (n := n + 10) (h := h) (t := 40) (k := k) (by omega) (ta hk)
theorem tc {k : Nat} (hk : k < 1000000000) : prog.call (n + 12) 5 [.int 40, .int (k : Int)] h = .ok (.d (.str (so (un 0 40 k)))) ⟨[], h⟩ := by
  have hb := ta hk
  have e2 := call_of (n := n + 10) (t := 40) (m := (k : Int)) (h := h) (by omega)
  rw [if_pos ⟨by omega, by omega⟩] at e2
  have et : ((k : Int)).toNat = k := by omega
  rw [et] at e2
  have k40 : ((40 : Nat) : Int) = 40 := rfl
  rw [k40] at e2
  exact e2
theorem td : prog.call (n + 12) 5 [.int 3, .int (-1)] h = .ex 1 h := by
  have e3 := call_of (n := n + 10) (t := 3) (m := -1) (h := h) (by omega)
  rw [if_neg (by omega)] at e3
  have k3 : ((3 : Nat) : Int) = 3 := rfl
  rw [k3] at e3
  exact e3
end
end K55
end
section
set_option linter.all false
set_option maxRecDepth 100000
set_option maxHeartbeats 4000000
namespace K55
open PySem PL
section
variable {n : Nat} {sc : D} {c2 c3 c4 c5 c6 c7 c8 c9 c10 c11 c12 c13 c14 : Option T} {h : Hs} {ro : Bool}
theorem q0 {k : Nat} (hk : k < 1000000000) {ro} : E.ev (prog.ctx (n + 12)) ro (.call 5 [.cst (.int 40), .var 7]) ⟨[some (.d sc), some (.d (.ref 0)), c2, c3, c4, c5, c6, some (.d (.int (k : Int))), c8, c9, c10, c11, c12, c13, c14], h⟩ = .ok (.d (.str (so (un 0 40 k)))) ⟨[some (.d sc), some (.d (.ref 0)), c2, c3, c4, c5, c6, some (.d (.int (k : Int))), c8, c9, c10, c11, c12, c13, c14], h⟩ := by
  have e2 := @tc n h k hk
  revert e2
  generalize un 0 40 k = U
  intro e2
  simp (disch := first | omega | simp) [PL.ev_var, PL.ev_mv, PL.ev_pop, PL.ev_cst, PL.ev_tup, PL.ev_lst, PL.ev_hlst, PL.ev_hdict, PL.ev_prim, PL.ev_and, PL.ev_or, PL.ev_not, PL.ev_ite, PL.ev_chain, PL.ev_call, PL.evs_nil, PL.evs_cons, PL.avs_nil, PL.avs_cons, PL.src_of, PL.src_range, PL.src_range2, PL.st_asg_, PL.st_swap_, PL.st_aug_, PL.st_append_, PL.st_hput_, PL.st_happend_, PL.st_expr_, PL.st_if_, PL.st_ret_, PL.st_raise_, PL.st_freeze_, PL.sts_nil, PL.sts_cons, PL.avOf, PL.bind, PL.ret, PL.see, PL.lift, PL.fail, PL.slot, PL.setSl, PL.needD, PL.truthAv, PL.truth, PL.test, PL.runP, PL.gets, PL.Av.get, PL.P.run, PL.addT, PL.G.put, PL.G.puts, PL.Prog.ctx, PL.walkAv, PL.walkOf, PL.wipe, PL.Def.start, PL.Def.run, PL.isOl, PL.isLref, PL.so_lit, PL.so_nil, PL.so_app, PL.so_len, PL.ite_big, PL.ite_bigN, e2]
theorem ev_call1 {C : PL.Ctx} {ro : Bool} {f : Nat} {e : E} {s s1 s2 : S} {x : D} {t : T} (h1 : E.ev C ro e s = .ok (.d x) s1) (h2 : C.call f [x] s1.hp = .ok t s2) : E.ev C ro (.call f [e]) s = .ok t ⟨s1.sl, s2.hp⟩ := by
  rw [PL.ev_call, PL.evs_cons, PL.evs_nil]
  unfold PL.bind
  rw [h1]
  show (match C.call f [x] s1.hp with
    | .ok t s' => R.ok t ⟨s1.sl, s'.hp⟩
    | .ex c h => .ex c h
    | .bad => .bad) = _
  rw [h2]
theorem q1 {k : Nat} (hk : k < 1000000000) {ro} : E.ev (prog.ctx (n + 12)) ro (.call 4 [.call 5 [.cst (.int 40), .var 7]]) ⟨[some (.d sc), some (.d (.ref 0)), c2, c3, c4, c5, c6, some (.d (.int (k : Int))), c8, c9, c10, c11, c12, c13, c14], h⟩ = .ok (.d (.int (k : Int))) ⟨[some (.d sc), some (.d (.ref 0)), c2, c3, c4, c5, c6, some (.d (.int (k : Int))), c8, c9, c10, c11, c12, c13, c14], h⟩ :=
  ev_call1 (C := prog.ctx (n + 12)) (f := 4) (t := .d (.int (k : Int))) (s2 := ⟨[], h⟩) (q0 hk) (@tb1 n h k hk)
theorem q2 : E.ev (prog.ctx (n + 12)) ro (.tried 0 (.call 5 [.cst (.int 3), .prim .sub [.cst (.int 0), .cst (.int 1)]])) ⟨[some (.d sc), some (.d (.ref 0)), c2, c3, c4, c5, c6, c7, c8, c9, c10, c11, c12, c13, c14], h⟩ = .ok (.d .non) ⟨[some (.d sc), some (.d (.ref 0)), c2, c3, c4, c5, c6, c7, c8, c9, c10, c11, c12, c13, c14], h⟩ := by
  have e3 := @td n h
  simp (disch := first | omega | simp) [PL.ev_var, PL.ev_mv, PL.ev_pop, PL.ev_cst, PL.ev_tup, PL.ev_lst, PL.ev_hlst, PL.ev_hdict, PL.ev_prim, PL.ev_and, PL.ev_or, PL.ev_not, PL.ev_ite, PL.ev_chain, PL.ev_call, PL.evs_nil, PL.evs_cons, PL.avs_nil, PL.avs_cons, PL.src_of, PL.src_range, PL.src_range2, PL.st_asg_, PL.st_swap_, PL.st_aug_, PL.st_append_, PL.st_hput_, PL.st_happend_, PL.st_expr_, PL.st_if_, PL.st_ret_, PL.st_raise_, PL.st_freeze_, PL.sts_nil, PL.sts_cons, PL.avOf, PL.bind, PL.ret, PL.see, PL.lift, PL.fail, PL.slot, PL.setSl, PL.needD, PL.truthAv, PL.truth, PL.test, PL.runP, PL.gets, PL.Av.get, PL.P.run, PL.addT, PL.G.put, PL.G.puts, PL.Prog.ctx, PL.walkAv, PL.walkOf, PL.wipe, PL.Def.start, PL.Def.run, PL.isOl, PL.isLref, PL.so_lit, PL.so_nil, PL.so_app, PL.so_len, PL.ite_big, PL.ite_bigN, e3, ev_tried, hd0, PL.hide, opI]
theorem z10 {k : Nat} (hk : k < 1000000000) : PL.St.ex (prog.ctx (n + 12)) y10 ⟨[some (.d sc), some (.d (.ref 0)), c2, c3, c4, c5, c6, some (.d (.int (k : Int))), c8, c9, c10, c11, c12, c13, c14], h⟩ = .ok (.rt (.d (.bl true))) ⟨[some (.d sc), some (.d (.ref 0)), c2, c3, c4, c5, c6, some (.d (.int (k : Int))), c8, c9, c10, c11, c12, c13, c14], h⟩ := by
  have e1 := @q1 n sc c2 c3 c4 c5 c6 c8 c9 c10 c11 c12 c13 c14 h k hk false
  have e2 := @q2 n sc c2 c3 c4 c5 c6 (some (.d (.int (k : Int)))) c8 c9 c10 c11 c12 c13 c14 h false
  unfold y10
  rw [PL.st_ret_, PL.ev_and]
  simp only [PL.bind, PL.avOf, PL.ev_prim, PL.avs_cons, PL.avs_nil, e1, e2, PL.ret, PL.see, PL.ev_var, PL.slot, PL.runP, PL.gets, PL.Av.get, PL.P.run, eq_int, blT, PL.truthAv, PL.truth, beq_self_eq_true, if_true, List.getElem?_cons_succ, List.getElem?_cons_zero]
end
theorem plain (ns : List Int) (hn : ns.length ≤ 63) : ∃ s, prog.call (60 + 1) 13 [.scr (ns.map .int)] [] = .ok (.d (.bl true)) s := by
  obtain ⟨h1, e1, t1⟩ := call_tape (n := 59) hn
  have f1 : PL.St.ex (prog.ctx (48 + 12)) (.asg (.nm 1) (.call 6 [.var 0])) ⟨[some (.d (.scr (ns.map .int))), none, none, none, none, none, none, none, none, none, none, none, none, none, none], []⟩ = .ok .nx ⟨[some (.d (.scr (ns.map .int))), some (.d (.ref 0)), none, none, none, none, none, none, none, none, none, none, none, none, none], h1⟩ := by
    simp (disch := first | omega | simp) [PL.ev_var, PL.ev_mv, PL.ev_pop, PL.ev_cst, PL.ev_tup, PL.ev_lst, PL.ev_hlst, PL.ev_hdict, PL.ev_prim, PL.ev_and, PL.ev_or, PL.ev_not, PL.ev_ite, PL.ev_chain, PL.ev_call, PL.evs_nil, PL.evs_cons, PL.avs_nil, PL.avs_cons, PL.src_of, PL.src_range, PL.src_range2, PL.st_asg_, PL.st_swap_, PL.st_aug_, PL.st_append_, PL.st_hput_, PL.st_happend_, PL.st_expr_, PL.st_if_, PL.st_ret_, PL.st_raise_, PL.st_freeze_, PL.sts_nil, PL.sts_cons, PL.avOf, PL.bind, PL.ret, PL.see, PL.lift, PL.fail, PL.slot, PL.setSl, PL.needD, PL.truthAv, PL.truth, PL.test, PL.runP, PL.gets, PL.Av.get, PL.P.run, PL.addT, PL.G.put, PL.G.puts, PL.Prog.ctx, PL.walkAv, PL.walkOf, PL.wipe, PL.Def.start, PL.Def.run, PL.isOl, PL.isLref, PL.so_lit, PL.so_nil, PL.so_app, PL.so_len, PL.ite_big, PL.ite_bigN, e1]
  obtain ⟨c2, c3, c4, c5, c6, c7, c8, c9, c10, h2, f2, t2⟩ := z2 (n := 48) (sc := .scr (ns.map .int)) (c2 := none) (c3 := none) (c4 := none) (c5 := none) (c6 := none) (c7 := none) (c8 := none) (c9 := none) (c10 := none) (c11 := none) (c12 := none) (c13 := none) (c14 := none) t1
  obtain ⟨d, h3, f3, t3, d0, d7⟩ := z3 (n := 48) (sc := .scr (ns.map .int)) (c2 := c2) (c3 := c3) (c4 := c4) (c5 := c5) (c6 := c6) (c7 := c7) (c8 := c8) (c9 := c9) (c10 := c10) (c11 := none) (c12 := none) (c13 := none) (c14 := none) t2
  obtain ⟨t, rfl⟩ : ∃ t : Nat, d = t := ⟨d.toNat, by omega⟩
  have f4 := z4 (n := 47) (sc := .scr (ns.map .int)) (c2 := c2) (c3 := c3) (c4 := c4) (c5 := c5) (c6 := c6) (c7 := c7) (c8 := c8) (c9 := c9) (c10 := c10) (c12 := none) (c13 := none) (c14 := none) (h := h3) (t := t) (by omega)
  obtain ⟨kI, h5, f5, t5, k0, kB⟩ := z5 (n := 48) (sc := .scr (ns.map .int)) (c2 := c2) (c3 := c3) (c4 := c4) (c5 := c5) (c6 := c6) (c7 := c7) (c8 := c8) (c9 := c9) (c10 := c10) (c11 := some (.d (.int (t : Int)))) (c13 := none) (c14 := none) (t := t) (by omega) t3
  obtain ⟨k, rfl⟩ : ∃ k : Nat, kI = k := ⟨kI.toNat, by omega⟩
  have f6 := z6 (n := 48) (sc := .scr (ns.map .int)) (c2 := c2) (c3 := c3) (c4 := c4) (c5 := c5) (c6 := c6) (c7 := c7) (c8 := c8) (c9 := c9) (c10 := c10) (c14 := none) (h := h5) (t := t) (k := k) (by omega) (by omega)
  have f7 := z7 (n := 48) (sc := .scr (ns.map .int)) (c2 := c2) (c3 := c3) (c4 := c4) (c5 := c5) (c6 := c6) (c7 := c7) (c8 := c8) (c9 := c9) (c10 := c10) (c11 := some (.d (.int (t : Int)))) (c13 := some (.d (.int (k : Int)))) (c14 := none) (h := h5) (t := t)
  have f8 := z8 (n := 48) (sc := .scr (ns.map .int)) (c2 := c2) (c3 := c3) (c4 := c4) (c5 := c5) (c6 := c6) (c7 := c7) (c8 := c8) (c9 := c9) (c10 := c10) (c12 := some (.ol (zs (al 0 t)))) (c13 := some (.d (.int (k : Int)))) (h := h5) (t := t) (by omega)
  obtain ⟨m, h9, f9, m0, m9⟩ := z9 (n := 48) (sc := .scr (ns.map .int)) (c2 := c2) (c3 := c3) (c4 := c4) (c5 := c5) (c6 := c6) (c7 := c7) (c8 := c8) (c9 := c9) (c10 := c10) (c11 := some (.d (.int (t : Int)))) (c12 := some (.ol (zs (al 0 t)))) (c13 := some (.d (.int (k : Int)))) (c14 := some (.d (.int (B 0 t : Nat)))) t5
  obtain ⟨m, rfl⟩ : ∃ k : Nat, m = k := ⟨m.toNat, by omega⟩
  have f10 := z10 (n := 48) (sc := .scr (ns.map .int)) (c2 := c2) (c3 := c3) (c4 := c4) (c5 := c5) (c6 := c6) (c8 := c8) (c9 := c9) (c10 := c10) (c11 := some (.d (.int (t : Int)))) (c12 := some (.ol (zs (al 0 t)))) (c13 := some (.d (.int (k : Int)))) (c14 := some (.d (.int (B 0 t : Nat)))) (h := h9) (k := m) (by omega)
  refine ⟨⟨[], h9⟩, ?_⟩
  show c_law.run (prog.ctx (48 + 12)) [.scr (ns.map .int)] [] = _
  have main : Sts.ex (prog.ctx (48 + 12)) [.asg (.nm 1) (.call 6 [.var 0]), .for_ (.nm 2) (.range (.cst (.int 2))) turnB, y3, y4, y5, y6, y7, y8, y9, y10] ⟨[some (.d (.scr (ns.map .int))), none, none, none, none, none, none, none, none, none, none, none, none, none, none], []⟩ = .ok (.rt (.d (.bl true))) ⟨[some (.d (.scr (ns.map .int))), some (.d (.ref 0)), c2, c3, c4, c5, c6, some (.d (.int (m : Int))), c8, c9, c10, some (.d (.int (t : Int))), some (.ol (zs (al 0 t))), some (.d (.int (k : Int))), some (.d (.int (B 0 t : Nat)))], h9⟩ := by
    rw [sts_ok f1, sts_ok f2, sts_ok f3, sts_ok f4, sts_ok f5, sts_ok f6, sts_ok f7, sts_ok f8, sts_ok f9, PL.sts_cons]
    unfold PL.bind
    rw [f10]
    rfl
  have run : ∀ (C : PL.Ctx) (b : List PL.St) (x : D), (⟨1, 15, b⟩ : PL.Def).run C [x] [] = match Sts.ex C b ⟨[some (.d x), none, none, none, none, none, none, none, none, none, none, none, none, none, none], []⟩ with
    | .ok .nx s => .ok (.d .non) ⟨[], s.hp⟩
    | .ok (.rt t) s => .ok t ⟨[], s.hp⟩
    | .ok _ _ => .bad
    | .ex c h => .ex c h
    | .bad => .bad := fun _ _ _ => rfl
  rw [c_law_eq, run, main]
end K55
end
open PySem PySem.W PyProof.Rows
theorem PySem.Challenge.cw_grovehouse_k55_codes_of_documents_holds : PySem.Challenge.rw_grovehouse_k55_codes_of_documents.Holds := by
  exact K55.holds_of K55.plain
