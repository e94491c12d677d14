import PyProof.Rows.All
import HandS.ForMost
import HandS.ForExc
import KE.KEqNest
import HandS.Text
import HandS.IsInst
import HandS.ExcOwn
import HandS.Iter
import HandS.Small
import HandS.Defaults
import HandS.Ends
import HandS.HeadEnd
import HandS.HeadHook1
import HandS.HeadHook2
import KE.KStateDown
import Lean
import HandS.Head0
import HandS.Head1
import HandS.Head2
import PySem.Challenge.RW_backwater_k11_names
set_option linter.all false
/-! PT: data as trees, a small tree language of Python's expressions and statements, and its evaluator. -/
namespace PT

abbrev Tx := List Nat

/-- a flat key, a dict's key -/
inductive K1 where
  | i (n : Int) | s (t : Tx)
  deriving DecidableEq, Repr
inductive Ky where
  | one (a : K1) | tup (as : List K1)
  deriving DecidableEq, Repr

/-- frozen data: never changes -/
inductive PV where
  | non | bl (b : Bool) | int (i : Int) | str (s : Tx)
  | lst (xs : List PV) | tup (xs : List PV)
  | dic (kvs : List (Ky × PV))
  | ins (c : String) (fs : List (String × PV))
  deriving Repr

/-- data with objects that only its holder knows -/
inductive OV where
  | fz (t : PV)
  | lst (xs : List OV)
  | tup (xs : List OV)
  | dic (T : Bool) (kvs : List (Ky × OV))
  | ins (c : String) (fs : List (String × OV))
  deriving Repr

def K1.pv : K1 → PV
  | .i n => .int n
  | .s t => .str t
def Ky.pv : Ky → PV
  | .one a => a.pv
  | .tup as => .tup (as.map K1.pv)
def PV.k1 : PV → Option K1
  | .int n => some (.i n)
  | .str t => some (.s t)
  | _ => none
def k1s : List PV → Option (List K1)
  | [] => some []
  | x :: xs => match x.k1, k1s xs with
    | some a, some as => some (a :: as)
    | _, _ => none
def PV.key : PV → Option Ky
  | .tup xs => (k1s xs).map .tup
  | t => t.k1.map .one

mutual
def OV.view : OV → PV
  | .fz t => t
  | .lst xs => .lst (views xs)
  | .tup xs => .tup (views xs)
  | .dic _ kvs => .dic (viewk kvs)
  | .ins c fs => .ins c (viewf fs)
termination_by structural o => o
def views : List OV → List PV
  | [] => []
  | x :: xs => x.view :: views xs
termination_by structural o => o
def viewk : List (Ky × OV) → List (Ky × PV)
  | [] => []
  | (k, x) :: xs => (k, x.view) :: viewk xs
termination_by structural o => o
def viewf : List (String × OV) → List (String × PV)
  | [] => []
  | (k, x) :: xs => (k, x.view) :: viewf xs
termination_by structural o => o
end

/-- a name's slot -/
inductive SV where
  | un | own (o : OV) | bor (o : OV)
abbrev Env := List SV
/-- what an expression gives: data of its own (frozen data always is), or a part of what slot i holds -/
inductive RV where
  | own (o : OV) | bor (i : Nat) (o : OV)
def RV.o : RV → OV
  | .own o => o
  | .bor _ o => o
def RV.t (r : RV) : PV := r.o.view
def mkBor (i : Nat) : OV → RV
  | .fz t => .own (.fz t)
  | o => .bor i o
def RV.isBor : RV → Bool
  | .bor _ _ => true
  | _ => false
def RV.sv : RV → SV
  | .own o => .own o
  | .bor _ o => .bor o
/-- frozen: what it gives may be kept anywhere -/
def RV.frz : RV → Option PV
  | .own o => some o.view
  | .bor _ _ => none

/-- an exception: class, fields -/
abbrev Ex := String × List (String × PV)
abbrev M (α : Type) := Env → Option (Except Ex α × Env)
def M.pure {α : Type} (a : α) : M α := fun e => some (.ok a, e)
def M.stuck {α : Type} : M α := fun _ => none
def M.bind {α β : Type} (m : M α) (f : α → M β) : M β := fun e =>
  match m e with
  | none => none
  | some (.error x, e') => some (.error x, e')
  | some (.ok a, e') => f a e'
def M.lift {α : Type} (o : Option α) : M α := fun e => o.map fun a => (.ok a, e)

@[simp] theorem M.bind_ok {α β : Type} {m : M α} {f : α → M β} {e e' : Env} {a : α} (h : m e = some (.ok a, e')) : M.bind m f e = f a e' := by
  unfold M.bind; rw [h]
theorem M.bind_some {α β : Type} {m : M α} {f : α → M β} {e : Env} {r : Except Ex β × Env} (h : M.bind m f e = some r) :
    (∃ x e', m e = some (.error x, e') ∧ r = (.error x, e')) ∨ ∃ a e', m e = some (.ok a, e') ∧ f a e' = some r := by
  unfold M.bind at h
  cases hm : m e with
  | none => rw [hm] at h; cases h
  | some q =>
    obtain ⟨c, e'⟩ := q
    rw [hm] at h
    cases c with
    | error x => left; exact ⟨x, e', rfl, (Option.some.inj h).symm⟩
    | ok a => right; exact ⟨a, e', rfl, h⟩

/-! ### operations on trees -/
inductive BO where | add | sub | mul | fdiv | mod | pow
  deriving DecidableEq, Repr
inductive CO where | eq | ne | lt | le | gt | ge | isin | notin | isnon | notnon
  deriving DecidableEq, Repr

def line : Nat := 16777216

mutual
/-- Python's == (dicts by their entries; instances aside) -/
def eqv : PV → PV → Bool
  | .non, .non => true
  | .bl a, .bl b => a == b
  | .bl a, .int j => (if a then (1 : Int) else 0) == j
  | .int i, .bl b => i == (if b then (1 : Int) else 0)
  | .int i, .int j => i == j
  | .str x, .str y => x == y
  | .lst xs, .lst ys => eqvs xs ys
  | .tup xs, .tup ys => eqvs xs ys
  | _, _ => false
termination_by structural x => x
def eqvs : List PV → List PV → Bool
  | [], [] => true
  | x :: xs, y :: ys => eqv x y && eqvs xs ys
  | _, _ => false
termination_by structural x => x
end
mutual
/-- without dicts, instances; at most n deep -/
def eqOk : Nat → PV → Bool
  | _, .non => true
  | _, .bl _ => true
  | _, .int _ => true
  | _, .str _ => true
  | 0, .lst _ => false
  | 0, .tup _ => false
  | n + 1, .lst xs => eqOks n xs
  | n + 1, .tup xs => eqOks n xs
  | _, .dic _ => false
  | _, .ins _ _ => false
termination_by structural _ x => x
def eqOks : Nat → List PV → Bool
  | _, [] => true
  | n, x :: xs => eqOk n x && eqOks n xs
termination_by structural _ x => x
end

def txLt : Tx → Tx → Bool
  | [], [] => false
  | [], _ :: _ => true
  | _ :: _, [] => false
  | a :: x, b :: y => if a < b then true else if b < a then false else txLt x y

def mulOk (i j : Int) : Bool := decide (-(2 ^ 64) < i ∧ i < 2 ^ 64) || decide (-(2 ^ 64) < j ∧ j < 2 ^ 64)

def opBin : BO → PV → PV → Option OV
  | .add, .int i, .int j => some (.fz (.int (i + j)))
  | .add, .str x, .str y => if x.length + y.length ≤ line then some (.fz (.str (x ++ y))) else none
  | .sub, .int i, .int j => some (.fz (.int (i - j)))
  | .mul, .int i, .int j => if mulOk i j then some (.fz (.int (i * j))) else none
  | .fdiv, .int i, .int j => if j ≠ 0 ∧ j.natAbs < 1073741824 then some (.fz (.int (i.fdiv j))) else none
  | .mod, .int i, .int j => if j ≠ 0 then some (.fz (.int (i.fmod j))) else none
  | .pow, .int i, .int j => if 0 ≤ j ∧ j ≤ 1000000 ∧ i.natAbs < 2 ^ 64 then some (.fz (.int (i ^ j.toNat))) else none
  | _, _, _ => none

def PV.isNon : PV → Bool
  | .non => true
  | _ => false
def isInTx : Tx → Tx → Option Bool
  | [c], y => some (decide (c ∈ y))
  | _, _ => none

def opCmp : CO → PV → PV → Option Bool
  | .eq, x, y => if eqOk 60 x && eqOk 60 y then some (eqv x y) else none
  | .ne, x, y => if eqOk 60 x && eqOk 60 y then some (!eqv x y) else none
  | .lt, .int i, .int j => some (decide (i < j))
  | .le, .int i, .int j => some (decide (i ≤ j))
  | .gt, .int i, .int j => some (decide (j < i))
  | .ge, .int i, .int j => some (decide (j ≤ i))
  | .lt, .str x, .str y => some (txLt x y)
  | .isin, .str x, .str y => isInTx x y
  | .notin, .str x, .str y => (isInTx x y).map (!·)
  | .isnon, x, .non => some x.isNon
  | .notnon, x, .non => some (!x.isNon)
  | _, _, _ => none

/-- truth -/
def PV.tru : PV → Option Bool
  | .non => some false
  | .bl b => some b
  | _ => none

/-- an index that may count from behind -/
def atIx {α : Type} (xs : List α) (i : Int) : Option α :=
  if 0 ≤ i then xs[i.toNat]? else if 0 ≤ i + xs.length then xs[(i + xs.length).toNat]? else none

/-- slice bounds as Python clips them -/
def clip (n : Nat) (i : Int) : Nat := if 0 ≤ i then min i.toNat n else (max 0 (i + n)).toNat
def cut {α : Type} (xs : List α) (lo hi : Option Int) : List α :=
  let a := match lo with | some i => clip xs.length i | none => 0
  let b := match hi with | some i => clip xs.length i | none => xs.length
  (xs.drop a).take (b - a)

/-! ### text of data -/
def natTx (n : Nat) : Tx := (Nat.toDigits 10 n).map Char.toNat
def intTx (i : Int) : Tx := if i < 0 then 45 :: natTx i.natAbs else natTx i.natAbs

/-- built-in functions and built-in methods that change nothing -/
inductive Bi where
  | len | abs | max2 | min2 | all | any | sum | isi (T : String) | repr | str | divmod | lstOf | sortedOf
  deriving DecidableEq, Repr
inductive Bm where
  | join | items
  deriving DecidableEq, Repr
/-- methods that change a list, a dict of one's own -/
inductive Mm where
  | append | clear
  deriving DecidableEq, Repr
inductive ItK where
  | seq | range1 | range2 | str | keys
  deriving DecidableEq, Repr

/-- a for's target: names -/
inductive Tn where
  | nm (i : Nat) | tp (ts : List Tn)

inductive ME where
  | var (i : Nat) | mv (i : Nat) | fzv (i : Nat) | io (i : Nat)
  | con (t : PV) | glob (g : String)
  | bin (op : BO) (a b : ME) | neg (a : ME)
  | cmp (op : CO) (a b : ME) | chain (op op2 : CO) (a b c : ME)
  | and (a b : ME) | or (a b : ME) | not (a : ME)
  | ite (c a b : ME)
  | lst (es : List ME) | tup (es : List ME) | dic (T : Bool) (kvs : List (ME × ME))
  | sub (a i : ME) | slice (a : ME) (lo hi : Option ME)
  | bi (f : Bi) (args : List ME)
  | call (f : String) (args : List ME) (kns : List Nat) (kws : List ME)
  | meth (m : Bm) (o : ME) (args : List ME)
  | mut (m : Mm) (p : ME) (args : List ME)
  | att (a : ME) (f : String)
  | lc (elt : ME) (tg : Tn) (k : ItK) (its : List ME) (ifs : List ME)
  | fz (e : ME)


/-- a def's meaning: from its parameters' slots to its answer and what the changed parameters hold behind -/
abbrev FSem := List SV → Option (Except Ex OV × List OV)
structure FE where
  np : Nat
  dfl : List PV
  ios : List Nat
  sem : FSem
structure Cxt where
  fn : String → Option FE
  gl : String → Option PV
  rp : PV → Option Tx
  fuel : Nat

mutual
/-- it changes no slot -/
def quiet : ME → Bool
  | .var _ => true
  | .mv _ => false
  | .fzv _ => false
  | .io _ => false
  | .con _ => true
  | .glob _ => true
  | .bin _ a b => quiet a && quiet b
  | .neg a => quiet a
  | .cmp _ a b => quiet a && quiet b
  | .chain _ _ a b c => quiet a && quiet b && quiet c
  | .and a b => quiet a && quiet b
  | .or a b => quiet a && quiet b
  | .not a => quiet a
  | .ite c a b => quiet c && quiet a && quiet b
  | .lst es => quiets es
  | .tup es => quiets es
  | .dic _ kvs => quietk kvs
  | .sub a i => quiet a && quiet i
  | .slice a lo hi => quiet a && quieto lo && quieto hi
  | .bi _ args => quiets args
  | .call _ args _ kws => quiets args && quiets kws
  | .meth _ o args => quiet o && quiets args
  | .mut _ _ _ => false
  | .att a _ => quiet a
  | .lc e _ _ its ifs => quiet e && quiets its && quiets ifs
  | .fz e => quiet e
termination_by structural e => e
def quiets : List ME → Bool
  | [] => true
  | e :: es => quiet e && quiets es
termination_by structural e => e
def quietk : List (ME × ME) → Bool
  | [] => true
  | (a, b) :: es => quiet a && quiet b && quietk es
termination_by structural e => e
def quieto : Option ME → Bool
  | none => true
  | some e => quiet e
termination_by structural e => e
end

/-! ### slots -/
def Env.at (env : Env) (i : Nat) : SV := env.getD i .un
def rdVar (i : Nat) : M RV := fun env =>
  match env.at i with
  | .own o => some (.ok (mkBor i o), env)
  | .bor o => some (.ok (mkBor i o), env)
  | .un => none
def mvVar (i : Nat) : M RV := fun env =>
  match env.at i with
  | .own o => some (.ok (.own o), env.set i .un)
  | .bor (.fz t) => some (.ok (.own (.fz t)), env)
  | _ => none
def fzVar (i : Nat) : M RV := fun env =>
  match env.at i with
  | .own o => some (.ok (.own (.fz o.view)), env.set i (.own (.fz o.view)))
  | .bor (.fz t) => some (.ok (.own (.fz t)), env)
  | _ => none

def own (t : PV) : RV := .own (.fz t)
def M.own (t : PV) : M RV := M.pure (PT.own t)

/-- an item of what an expression gave -/
def subRV : RV → PV → Option RV
  | .own (.fz (.lst xs)), .int i => (atIx xs i).map own
  | .own (.fz (.tup xs)), .int i => (atIx xs i).map own
  | .own (.fz (.str x)), .int i => if x.length ≤ line then (atIx x i).map fun c => own (.str [c]) else none
  | .own (.lst xs), .int i => (atIx xs i).map .own
  | .own (.tup xs), .int i => (atIx xs i).map .own
  | .bor j (.lst xs), .int i => (atIx xs i).map (mkBor j)
  | .bor j (.tup xs), .int i => (atIx xs i).map (mkBor j)
  | .own (.fz (.dic kvs)), k => match k.key with
    | some q => (kvs.lookup q).map own
    | none => none
  | _, _ => none
def sliceT : PV → Option Int → Option Int → Option OV
  | .str x, lo, hi => if x.length ≤ line then some (.fz (.str (cut x lo hi))) else none
  | _, _, _ => none

def allFzO : List OV → Option (List PV)
  | [] => some []
  | .fz t :: os => (allFzO os).map (t :: ·)
  | _ :: _ => none
def attRV : RV → String → Option RV
  | .own (.fz (.ins _ fs)), f => (fs.lookup f).map own
  | .own (.ins _ fs), f => (fs.lookup f).map .own
  | .bor j (.ins _ fs), f => (fs.lookup f).map (mkBor j)
  | _, _ => none
/-- what is walked -/
def itemsOf : ItK → List RV → Option (List RV)
  | .seq, [.own (.fz (.lst xs))] => some (xs.map own)
  | .seq, [.own (.fz (.tup xs))] => some (xs.map own)
  | .seq, [.own (.lst xs)] => (allFzO xs).map fun ts => ts.map own
  | .seq, [.own (.tup xs)] => (allFzO xs).map fun ts => ts.map own
  | .seq, [.bor j (.lst xs)] => some (xs.map (mkBor j))
  | .seq, [.bor j (.tup xs)] => some (xs.map (mkBor j))
  | .range1, [.own (.fz (.int n))] => if -(2 ^ 62) ≤ n ∧ n ≤ line then some ((List.range n.toNat).map fun (k : Nat) => own (.int k)) else none
  | .range2, [.own (.fz (.int a)), .own (.fz (.int b))] =>
    if -(2 ^ 62) ≤ a ∧ a < 2 ^ 62 ∧ -(2 ^ 62) ≤ b ∧ b < 2 ^ 62 ∧ b - a ≤ line then some ((List.range (b - a).toNat).map fun (k : Nat) => own (.int (a + k))) else none
  | .str, [.own (.fz (.str x))] => if x.length ≤ line then some (x.map fun c => own (.str [c])) else none
  | _, _ => none
/-- the slot that is held still while its data is walked -/
def rootOf : List RV → Option Nat
  | [.bor j _] => some j
  | _ => none
def lockE (env : Env) : Option Nat → Env
  | none => env
  | some i => match env.at i with
    | .own o => env.set i (.bor o)
    | _ => env
def mergeS (w : Bool) : SV → SV → SV
  | .bor o, .bor _ => if w then .un else .bor o
  | .un, .bor _ => .un
  | .own _, .bor _ => .un
  | _, s => s
/-- behind a walk: borrowed things that came in it are forgotten -/
def mergeE (wr : List Nat) : Nat → Env → Env → Env
  | n, s0 :: e0, s :: e => mergeS (wr.contains n) s0 s :: mergeE wr (n + 1) e0 e
  | _, _, _ => []
/-- behind the walk the slot has again what it had -/
def unlockE (wr : List Nat) (env : Env) (r : Option Nat) (env' : Env) : Option Env :=
  match r with
  | none => some (mergeE wr 0 env env')
  | some i => match env.at i, env'.at i with
    | .own o, .bor _ => if wr.contains i then none else some ((mergeE wr 0 env env').set i (.own o))
    | .own _, _ => none
    | _, _ => some (mergeE wr 0 env env')
mutual
def bindT : Tn → RV → Env → Option Env
  | .nm i, r, env => if i < env.length then some (env.set i r.sv) else none
  | .tp ts, .own (.fz (.tup xs)), env => bindTs ts (xs.map own) env
  | .tp ts, .own (.tup xs), env => bindTs ts (xs.map .own) env
  | .tp ts, .bor j (.tup xs), env => bindTs ts (xs.map (mkBor j)) env
  | .tp _, _, _ => none
termination_by structural t => t
def bindTs : List Tn → List RV → Env → Option Env
  | [], [], env => some env
  | t :: ts, x :: xs, env => match bindT t x env with
    | some env' => bindTs ts xs env'
    | none => none
  | _, _, _ => none
termination_by structural t => t
end
mutual
def Tn.slots : Tn → List Nat
  | .nm i => [i]
  | .tp ts => slotss ts
termination_by structural t => t
def slotss : List Tn → List Nat
  | [] => []
  | t :: ts => t.slots ++ slotss ts
termination_by structural t => t
end
def SV.calm : SV → Bool
  | .un => true
  | .own (.fz _) => true
  | .bor _ => true
  | _ => false
def calmAt (env : Env) (is : List Nat) : Bool := is.all fun i => (env.at i).calm
def wipeE (env : Env) : List Nat → Env
  | [] => env
  | i :: is => (wipeE env is).set i .un
def restoreE (env0 env : Env) : List Nat → Env
  | [] => env
  | i :: is => (restoreE env0 env is).set i (env0.at i)

/-- a comprehension's turns -/
def lcLoop (step : RV → M (Option OV)) : List RV → M (List OV)
  | [] => M.pure []
  | x :: xs => M.bind (step x) fun y => M.bind (lcLoop step xs) fun ys => M.pure (match y with | some o => o :: ys | none => ys)
def lcOwn : RV → M (Option OV)
  | .own o => M.pure (some o)
  | .bor _ _ => M.stuck
def lcStep (tg : Tn) (body : M (Option OV)) (x : RV) : M (Option OV) := fun env =>
  match bindT tg x (wipeE env tg.slots) with
  | none => none
  | some env1 => match body env1 with
    | some (.ok y, env2) => if calmAt env2 tg.slots then some (.ok y, env2) else none
    | _ => none
def lcE (k : ItK) (rs : List RV) (tg : Tn) (body : M (Option OV)) : M RV := fun env =>
  match itemsOf k rs with
  | none => none
  | some items =>
    if calmAt (lockE env (rootOf rs)) tg.slots && decide (items.length ≤ line) then
      match lcLoop (lcStep tg body) items (lockE env (rootOf rs)) with
      | some (.ok os, env') => (unlockE [] env (rootOf rs) (restoreE (lockE env (rootOf rs)) env' tg.slots)).map fun env'' => (.ok (.own (.lst os)), env'')
      | _ => none
    else none

def allTru : List PV → Option Bool
  | [] => some true
  | x :: xs => match x with
    | .bl b => (allTru xs).map (b && ·)
    | _ => none
/-- the built-in type's name -/
def tyN : PV → Option String
  | .non => some "NoneType"
  | .bl _ => some "bool"
  | .int _ => some "int"
  | .str _ => some "str"
  | .lst _ => some "list"
  | .tup _ => some "tuple"
  | .dic _ => some "dict"
  | .ins _ _ => none
def isiT (T : String) (t : PV) : Option Bool := if ["str", "int", "bool", "list", "tuple", "dict"].contains T then (tyN t).map fun U => U == T || (U == "bool" && T == "int") else none
def allStr : List PV → Option (List Tx)
  | [] => some []
  | .str x :: ts => (allStr ts).map (x :: ·)
  | _ :: _ => none
def joinTx (a : Tx) : List Tx → Tx
  | [] => []
  | [x] => x
  | x :: y :: r => x ++ (a ++ joinTx a (y :: r))
def bmT : Bm → PV → List PV → Option OV
  | .join, .str a, [.lst ts] => (allStr ts).bind fun ys => if (ys.map List.length).sum + ys.length * a.length ≤ 16777216 then some (.fz (.str (joinTx a ys))) else none
  | _, _, _ => none
def recvOk : Bm → PV → Bool
  | .join, .str _ => true
  | .items, .dic _ => true
  | _, _ => false
def dicOk (T : Bool) (os : List (Ky × OV)) : Bool := os.isEmpty || (!T && decide (os.length ≤ 15) && decide ((os.map (·.1)).Nodup))
def biT (C : Cxt) : Bi → List PV → Option OV
  | .len, [.lst xs] => some (.fz (.int xs.length))
  | .len, [.tup xs] => some (.fz (.int xs.length))
  | .len, [.str x] => if x.length ≤ line then some (.fz (.int x.length)) else none
  | .abs, [.int i] => some (.fz (.int (if i < 0 then -i else i)))
  | .max2, [.int i, .int j] => some (.fz (.int (if j > i then j else i)))
  | .min2, [.int i, .int j] => some (.fz (.int (if j < i then j else i)))
  | .divmod, [.int i, .int j] => if 0 < j ∧ j < 1073741824 then some (.fz (.tup [.int (i / j), .int (i % j)])) else none
  | .isi T, [t] => (isiT T t).map fun k => .fz (.bl k)
  | .all, [.lst ts] => (allTru ts).map fun k => .fz (.bl k)
  | .repr, [t] => (C.rp t).map fun x => .fz (.str x)
  | _, _ => none

def oneIo (env : Env) : ME → OV → Env
  | .io i, o => env.set i (.own o)
  | _, _ => env
def backIo (env : Env) (args : List ME) : List Nat → List OV → Option Env
  | [], [] => some env
  | p :: ps, o :: os => match args[p]? with
    | some a => backIo (oneIo env a o) args ps os
    | none => none
  | _, _ => none
/-- how a further parameter is filled: by name (the parameter's number), by default -/
def asmAt {α : Type} (np : Nat) (dfl : List α) (kns : List Nat) (ks : List α) (j : Nat) : Option α :=
  match (kns.zip ks).lookup j with
  | some s => some s
  | none => if np - dfl.length ≤ j then dfl[j - (np - dfl.length)]? else none
def asmJ {α : Type} (np : Nat) (dfl : List α) (kns : List Nat) (ks : List α) : List Nat → Option (List α)
  | [] => some []
  | j :: js => match asmAt np dfl kns ks j, asmJ np dfl kns ks js with
    | some a, some as => some (a :: as)
    | _, _ => none
def asmL {α : Type} (np : Nat) (dfl us : List α) (kns : List Nat) (ks : List α) : Option (List α) :=
  if us.length ≤ np then (asmJ np dfl kns ks (List.range' us.length (np - us.length))).map (us ++ ·) else none
def assemble (f : FE) (rs : List SV) (kns : List Nat) (ks : List SV) : Option (List SV) := asmL f.np (f.dfl.map fun t => .own (.fz t)) rs kns ks
/-- it holds no object of its own -/
def RV.still : RV → Bool
  | .own (.fz _) => true
  | .bor _ _ => true
  | _ => false
def callE (f : FE) (args : List ME) (svs : List SV) : M RV := fun env =>
  match f.sem svs with
  | none => none
  | some (r, outs) => match backIo env args f.ios outs with
    | none => none
    | some env' => some (r.map .own, env')

def allOwn : List RV → Option (List OV)
  | [] => some []
  | .own o :: rs => (allOwn rs).map (o :: ·)
  | .bor _ _ :: _ => none
def allFz : List RV → Option (List PV)
  | [] => some []
  | .own (.fz t) :: rs => (allFz rs).map (t :: ·)
  | _ :: _ => none
def lstR (rs : List RV) : Option RV := match allOwn rs with
  | some os => if os.length ≤ line then some (.own (.lst os)) else none
  | none => none
def tupR (rs : List RV) : Option RV := match allFz rs with
  | some ts => if ts.length ≤ line then some (own (.tup ts)) else none
  | none => match allOwn rs with
    | some os => if os.length ≤ line then some (.own (.tup os)) else none
    | none => none
def biR (C : Cxt) (f : Bi) (rs : List RV) : Option RV := (biT C f (rs.map RV.t)).map .own
def truM (m : M RV) : M Bool := M.bind m fun x => match x.t with
  | .bl k => M.pure k
  | _ => M.stuck
def pr (m : M RV) : M RV × M Bool := (m, truM m)

/-- a step within data -/
inductive Stp where
  | key (k : PV) | at (f : String)
def lkp {α β : Type} (eq : α → α → Bool) : List (α × β) → α → Option β
  | [], _ => none
  | (k, v) :: r, a => if eq k a then some v else lkp eq r a
def getP : OV → List Stp → Option OV
  | o, [] => some o
  | .lst xs, .key (.int i) :: p => match atIx xs i with
    | some x => getP x p
    | none => none
  | .tup xs, .key (.int i) :: p => match atIx xs i with
    | some x => getP x p
    | none => none
  | .dic _ kvs, .key k :: p => match k.key with
    | some q => (match kvs.lookup q with
      | some x => getP x p
      | none => none)
    | none => none
  | .ins _ fs, .at f :: p => match fs.lookup f with
    | some x => getP x p
    | none => none
  | _, _ => none
def nix (n : Nat) (i : Int) : Option Nat := if 0 ≤ i then (if i.toNat < n then some i.toNat else none) else if 0 ≤ i + n then some (i + n).toNat else none
def set1 {α β : Type} [BEq α] (k : α) (v : β) : List (α × β) → List (α × β)
  | [] => [(k, v)]
  | (a, b) :: r => if a == k then (a, v) :: r else (a, b) :: set1 k v r
def setK {α β : Type} [BEq α] (k : α) (v : β) (kvs : List (α × β)) : List (α × β) :=
  if kvs.any (fun p => p.1 == k) then kvs.map (fun p => if p.1 == k then (p.1, v) else p) else kvs ++ [(k, v)]
def setP : OV → List Stp → OV → Option OV
  | _, [], o => some o
  | .lst xs, .key (.int i) :: p, o => match nix xs.length i with
    | some j => (match xs[j]? with
      | some x => (setP x p o).map fun y => .lst (xs.set j y)
      | none => none)
    | none => none
  | .tup xs, .key (.int i) :: p, o => match nix xs.length i with
    | some j => (match xs[j]? with
      | some x => (setP x p o).map fun y => .tup (xs.set j y)
      | none => none)
    | none => none
  | .dic T kvs, .key k :: p, o => match k.key with
    | some q => (match kvs.lookup q with
      | some x => (setP x p o).map fun y => .dic T (set1 q y kvs)
      | none => none)
    | none => none
  | .ins c fs, .at f :: p, o => match fs.lookup f with
    | some x => (setP x p o).map fun y => .ins c (set1 f y fs)
    | none => none
  | _, _, _ => none
/-- a change of one's own data at a place -/
def updP {α : Type} (f : OV → Option (α × OV)) (ip : Nat × List Stp) : M α := fun env =>
  match env.at ip.1 with
  | .own o => (match getP o ip.2 with
    | some x => (match f x with
      | some (a, y) => (setP o ip.2 y).map fun o' => (.ok a, env.set ip.1 (.own o'))
      | none => none)
    | none => none)
  | _ => none
def OV.isFz : OV → Bool
  | .fz _ => true
  | _ => false
/-- a name's data, as a place -/
def plVar (i : Nat) : M (Nat × List Stp) := fun env => match env.at i with
  | .un => none
  | _ => some (.ok (i, []), env)
def mutR : Mm → List RV → OV → Option (RV × OV)
  | .append, [.own x], .lst xs => if xs.length < line then some (own .non, .lst (xs ++ [x])) else none
  | .clear, [], .lst _ => some (own .non, .lst [])
  | _, _, _ => none
def Ky.isT : Ky → Bool
  | .tup _ => true
  | _ => false
/-- o[k] = v -/
def putR (k : PV) (v : OV) : OV → Option (Unit × OV)
  | .lst xs => match k with
    | .int i => (nix xs.length i).map fun j => ((), .lst (xs.set j v))
    | _ => none
  | .dic T kvs => match k.key with
    | some q => if q.isT == T && decide (kvs.length < line) && (v.isFz || !kvs.any (fun p => p.1 == q)) then some ((), .dic T (setK q v kvs)) else none
    | none => none
  | _ => none

def ioOf : ME → Option Nat
  | .io i => some i
  | _ => none
def RV.borOf (i : Nat) : RV → Bool
  | .bor j _ => j == i
  | _ => false
/-- the first of a row: a slot that is moved is moved last -/
def evHd : Option Nat → M RV → Bool → M (List RV) → M (List RV)
  | none, m, q, r => M.bind m fun x => if x.isBor && !q then M.stuck else M.bind r fun xs => M.pure (x :: xs)
  | some i, _, _, r => M.bind (plVar i) fun _ => M.bind r fun xs => if xs.any (RV.borOf i) then M.stuck else M.bind (mvVar i) fun x => M.pure (x :: xs)
mutual
def ev (C : Cxt) : ME → M RV × M Bool
  | .var i => pr (rdVar i)
  | .mv i => pr (mvVar i)
  | .fzv i => pr (fzVar i)
  | .io i => pr (mvVar i)
  | .con t => pr (M.own t)
  | .glob g => pr (M.lift ((C.gl g).map own))
  | .bin op a b => pr (M.bind ((ev C a).1) fun x => if x.isBor && !quiet b then M.stuck else M.bind ((ev C b).1) fun y => M.lift ((opBin op x.t y.t).map .own))
  | .neg a => pr (M.bind ((ev C a).1) fun x => M.lift (match x.t with | .int i => some (own (.int (-i))) | _ => none))
  | .cmp op a b => pr (M.bind ((ev C a).1) fun x => if x.isBor && !quiet b then M.stuck else M.bind ((ev C b).1) fun y => M.lift ((opCmp op x.t y.t).map fun k => own (.bl k)))
  | .chain op op2 a b c => pr (M.bind ((ev C a).1) fun x => if x.isBor && !quiet b then M.stuck else M.bind ((ev C b).1) fun y => M.bind (M.lift (opCmp op x.t y.t)) fun k =>
      if k then (if y.isBor && !quiet c then M.stuck else M.bind ((ev C c).1) fun z => M.lift ((opCmp op2 y.t z.t).map fun k => own (.bl k))) else M.own (.bl false))
  | .and a b => (M.bind (ev C a).1 fun x => match x.t with
    | .bl k => if k then (ev C b).1 else M.own (.bl false)
    | _ => M.stuck, M.bind (ev C a).2 fun k => if k then (ev C b).2 else M.pure false)
  | .or a b => (M.bind (ev C a).1 fun x => match x.t with
    | .bl k => if k then M.own (.bl true) else (ev C b).1
    | _ => M.stuck, M.bind (ev C a).2 fun k => if k then M.pure true else (ev C b).2)
  | .not a => (M.bind (ev C a).1 fun x => match x.t with
    | .bl k => M.own (.bl (!k))
    | _ => M.stuck, M.bind (ev C a).2 fun k => M.pure (!k))
  | .ite c a b => pr (M.bind ((ev C c).2) fun k => if k then (ev C a).1 else (ev C b).1)
  | .lst es => pr (M.bind (evBs C es) fun rs => M.lift (lstR rs))
  | .tup es => pr (M.bind (evBs C es) fun rs => M.lift (tupR rs))
  | .dic T kvs => pr (M.bind (evKs C kvs) fun os => if dicOk T os then M.pure (.own (.dic T os)) else M.stuck)
  | .sub a i => pr (M.bind ((ev C a).1) fun x => if x.isBor && !quiet i then M.stuck else M.bind ((ev C i).1) fun y => M.lift (subRV x y.t))
  | .slice a lo hi => pr (M.bind ((ev C a).1) fun x => if x.isBor then M.stuck else M.bind (evI C lo) fun l => M.bind (evI C hi) fun h => M.lift ((sliceT x.t l h).map .own))
  | .bi f args => pr (M.bind (evBs C args) fun xs => M.lift (biR C f xs))
  | .call f args kns kws => pr (M.bind (evBs C args) fun rs => if rs.any RV.isBor && !quiets kws then M.stuck else M.bind (evBs C kws) fun ks => if !ks.all RV.still then M.stuck else match C.fn f with
    | none => M.stuck
    | some e => match assemble e (rs.map RV.sv) kns (ks.map RV.sv) with
      | none => M.stuck
      | some svs => callE e args svs)
  | .meth m o args => pr (M.bind ((ev C o).1) fun x => if !recvOk m x.t || (x.isBor && !quiets args) then M.stuck else M.bind (evBs C args) fun ys => M.lift ((bmT m x.t (ys.map RV.t)).map .own))
  | .mut m p args => pr (M.bind (evP C p) fun ip => if !ip.2.isEmpty && !quiets args then M.stuck else M.bind (evBs C args) fun rs => updP (mutR m rs) ip)
  | .att a f => pr (M.bind ((ev C a).1) fun x => M.lift (attRV x f))
  | .lc elt tg k its ifs => pr (M.bind (evBs C its) fun rs => lcE k rs tg (M.bind (evTs C ifs) fun p => if p then M.bind ((ev C elt).1) lcOwn else M.pure none))
  | .fz e => pr (M.bind ((ev C e).1) fun x => M.lift (x.frz.map own))
termination_by structural e => e
def evTs (C : Cxt) : List ME → M Bool
  | [] => M.pure true
  | e :: es => M.bind ((ev C e).2) fun k => if k then evTs C es else M.pure false
termination_by structural e => e
/-- a place: a name's data, a part of it -/
def evP (C : Cxt) : ME → M (Nat × List Stp)
  | .var i => plVar i
  | .sub p k => M.bind (evP C p) fun ip => if quiet k then M.bind ((ev C k).1) fun x => M.pure (ip.1, ip.2 ++ [.key x.t]) else M.stuck
  | .att p f => M.bind (evP C p) fun ip => M.pure (ip.1, ip.2 ++ [.at f])
  | _ => M.stuck
termination_by structural e => e
/-- values that are looked at alone -/
def evBs (C : Cxt) : List ME → M (List RV)
  | [] => M.pure []
  | e :: es => evHd (ioOf e) ((ev C e).1) (quiets es) (evBs C es)
termination_by structural e => e
def evKs (C : Cxt) : List (ME × ME) → M (List (Ky × OV))
  | [] => M.pure []
  | (k, v) :: es => M.bind ((ev C k).1) fun x => M.bind ((ev C v).1) fun y => match x, y with
    | .own (.fz t), .own o => (match t.k1 with
      | some q => M.bind (evKs C es) fun os => M.pure ((.one q, o) :: os)
      | none => M.stuck)
    | _, _ => M.stuck
termination_by structural e => e
def evI (C : Cxt) : Option ME → M (Option Int)
  | none => M.pure none
  | some e => M.bind ((ev C e).1) fun x => match x.t with
    | .int i => M.pure (some i)
    | _ => M.stuck
termination_by structural e => e
end
abbrev evE (C : Cxt) (e : ME) : M RV := (ev C e).1
abbrev evT (C : Cxt) (e : ME) : M Bool := (ev C e).2

/-! ### statements -/
/-- a target: names, items of one's own data -/
inductive MG where
  | nm (i : Nat) | tp (ts : List MG) | sub (p k : ME)
inductive MS where
  | pass | brk | cnt
  | expr (e : ME)
  | asg (t : Tn) (e : ME)
  | asgG (t : MG) (e : ME)
  | put (p k e : ME)
  | putA (p : ME) (f : String) (e : ME)
  | del (p k : ME)
  | aug (i : Nat) (op : BO) (e : ME)
  | ret (e : Option ME)
  | ite (c : ME) (a b : List MS)
  | while (c : ME) (b : List MS)
  | for (t : Tn) (k : ItK) (its : List ME) (b : List MS)
  | raise (c : String) (args : List ME)
  | tryx (b : List MS) (hs : List (List String × Option Nat × List MS))
inductive Out where
  | nx | br | ct | rt (o : OV) | ex (x : Ex)
abbrev SM := Env → Option (Out × Env)
def M.st {α : Type} (m : M α) (f : α → SM) : SM := fun env =>
  match m env with
  | none => none
  | some (.error x, e') => some (.ex x, e')
  | some (.ok a, e') => f a e'
def SM.nx : SM := fun env => some (.nx, env)
def SM.stuck : SM := fun _ => none
def SM.seq (a b : SM) : SM := fun env =>
  match a env with
  | none => none
  | some (.nx, e') => b e'
  | some (o, e') => some (o, e')
/-- an own value -/
def RV.own? : RV → Option OV
  | .own o => some o
  | .bor _ _ => none
def asgT (t : Tn) (r : RV) : SM := fun env =>
  match r with
  | .own _ => (match bindT t r env with
    | some env' => some (.nx, env')
    | none => none)
  | .bor _ _ => none
/-- P[k] = v -/
def putE (C : Cxt) (p k : ME) (v : OV) : M Unit :=
  M.bind (evP C p) fun ip => if !ip.2.isEmpty && !quiet k then M.stuck else M.bind (evE C k) fun x => updP (putR x.t v) ip
mutual
def asgE (C : Cxt) : MG → PV → M Unit
  | .nm i, t => fun env => if i < env.length then some (.ok (), env.set i (.own (.fz t))) else none
  | .tp gs, .tup ts => if ts.length = gs.length then asgEs C gs ts else M.stuck
  | .tp _, _ => M.stuck
  | .sub p k, t => putE C p k (.fz t)
termination_by structural g => g
def asgEs (C : Cxt) : List MG → List PV → M Unit
  | [], [] => M.pure ()
  | g :: gs, t :: ts => M.bind (asgE C g t) fun _ => asgEs C gs ts
  | _, _ => M.stuck
termination_by structural g => g
end
mutual
/-- slots that are written -/
def MG.wr : MG → List Nat
  | .nm i => [i]
  | .tp gs => wrGs gs
  | .sub _ _ => []
termination_by structural g => g
def wrGs : List MG → List Nat
  | [] => []
  | g :: gs => g.wr ++ wrGs gs
termination_by structural g => g
end
mutual
def MS.wr : MS → List Nat
  | .asg t _ => t.slots
  | .asgG t _ => t.wr
  | .aug i _ _ => [i]
  | .ite _ a b => wrs a ++ wrs b
  | .while _ b => wrs b
  | .for t _ _ b => t.slots ++ wrs b
  | .tryx b hs => wrs b ++ wrh hs
  | _ => []
termination_by structural m => m
def wrs : List MS → List Nat
  | [] => []
  | m :: ms => m.wr ++ wrs ms
termination_by structural m => m
def wrh : List (List String × Option Nat × List MS) → List Nat
  | [] => []
  | (_, n, ms) :: hs => (match n with | some i => [i] | none => []) ++ wrs ms ++ wrh hs
termination_by structural m => m
end
def whileL (test : M Bool) (body : SM) : Nat → SM
  | 0 => SM.stuck
  | n + 1 => test.st fun k => if k then (fun env => match body env with
    | none => none
    | some (.nx, e') => whileL test body n e'
    | some (.ct, e') => whileL test body n e'
    | some (.br, e') => some (.nx, e')
    | some (o, e') => some (o, e')) else SM.nx
def forL (t : Tn) (body : SM) : List RV → SM
  | [] => SM.nx
  | x :: xs => fun env => match bindT t x env with
    | none => none
    | some env1 => match body env1 with
      | none => none
      | some (.nx, e') => forL t body xs e'
      | some (.ct, e') => forL t body xs e'
      | some (.br, e') => some (.nx, e')
      | some (o, e') => some (o, e')
def forE (t : Tn) (wr : List Nat) (body : SM) (k : ItK) (rs : List RV) : SM := fun env =>
  match itemsOf k rs with
  | none => none
  | some items => match forL t body items (lockE env (rootOf rs)) with
    | none => none
    | some (o, env') => (unlockE wr env (rootOf rs) env').map fun e => (o, e)
def augE (C : Cxt) (i : Nat) (op : BO) (e : ME) : SM := fun env =>
  match env.at i with
  | .own (.fz t) => (M.st (M.bind (evE C e) fun y => M.lift (opBin op t y.t)) fun o => asgT (.nm i) (.own o)) env
  | _ => none

mutual
def evS (C : Cxt) : MS → SM
  | .pass => SM.nx
  | .brk => fun env => some (.br, env)
  | .cnt => fun env => some (.ct, env)
  | .expr e => (evE C e).st fun _ => SM.nx
  | .asg t e => (evE C e).st (asgT t)
  | .asgG t e => (evE C e).st fun r => match r with
    | .own (.fz v) => (asgE C t v).st fun _ => SM.nx
    | _ => SM.stuck
  | .put p k e => (evE C e).st fun r => match r with
    | .own o => (putE C p k o).st fun _ => SM.nx
    | _ => SM.stuck
  | .putA _ _ _ => SM.stuck
  | .del _ _ => SM.stuck
  | .aug i op e => augE C i op e
  | .ret none => fun env => some (.rt (.fz .non), env)
  | .ret (some e) => (evE C e).st fun r env => match r with
    | .own o => some (.rt o, env)
    | _ => none
  | .ite c a b => (evT C c).st fun k => if k then evSs C a else evSs C b
  | .while c b => whileL (evT C c) (evSs C b) C.fuel
  | .for t k its b => (evBs C its).st (forE t (t.slots ++ wrs b) (evSs C b) k)
  | .raise _ _ => SM.stuck
  | .tryx _ _ => SM.stuck
termination_by structural m => m
def evSs (C : Cxt) : List MS → SM
  | [] => SM.nx
  | m :: ms => (evS C m).seq (evSs C ms)
termination_by structural m => m
end
end PT

set_option linter.all false
set_option maxRecDepth 100000
/-! how trees lie in the abstract heap -/
namespace PTS
open PySem L2 PT

def tS (t : Tx) : Str := ⟨t.toArray⟩
def k1K : K1 → Key
  | .i n => .inl n
  | .s t => .inr (tS t)
abbrev Clt := String → Option Addr
def fS (s : String) : Str := Str.ofString s

def KyK : Ky → Key → Prop
  | .one a, k => k = k1K a
  | .tup _, _ => False
def KyT : Ky → List Key → Prop
  | .one _, _ => False
  | .tup as, k => k = as.map k1K

mutual
def RepF (cl : Clt) (H : Hp) : V → PV → Prop
  | v, .non => v = .non
  | v, .bl b => v = .bl b
  | v, .int i => v = .int i
  | v, .str s => v = .str (tS s)
  | v, .lst xs => ∃ a o vs, v = .ref a ∧ H a = some (.frz o (.lst vs)) ∧ RepFs cl H vs xs
  | v, .tup xs => ∃ a vs, v = .ref a ∧ H a = some (.tup vs) ∧ RepFs cl H vs xs
  | v, .dic kvs => ∃ a o, v = .ref a ∧ ((∃ ks, H a = some (.frz o (.dK ks)) ∧ RepFk cl H ks kvs) ∨ ∃ ks, H a = some (.frz o (.dT ks)) ∧ RepFt cl H ks kvs)
  | v, .ins c fs => ∃ a o C dx gs, v = .ref a ∧ cl c = some C ∧ H a = some (.frz o (.ins C dx gs)) ∧ RepFf cl H gs fs
termination_by structural _ t => t
def RepFs (cl : Clt) (H : Hp) : List V → List PV → Prop
  | [], [] => True
  | v :: vs, x :: xs => RepF cl H v x ∧ RepFs cl H vs xs
  | _, _ => False
termination_by structural _ t => t
def RepFk (cl : Clt) (H : Hp) : List (Key × V) → List (Ky × PV) → Prop
  | [], [] => True
  | p :: vs, (k, x) :: xs => KyK k p.1 ∧ RepF cl H p.2 x ∧ RepFk cl H vs xs
  | _, _ => False
termination_by structural _ t => t
def RepFt (cl : Clt) (H : Hp) : List (List Key × V) → List (Ky × PV) → Prop
  | [], [] => True
  | p :: vs, (k, x) :: xs => KyT k p.1 ∧ RepF cl H p.2 x ∧ RepFt cl H vs xs
  | _, _ => False
termination_by structural _ t => t
def RepFf (cl : Clt) (H : Hp) : List (Str × V) → List (String × PV) → Prop
  | [], [] => True
  | p :: vs, (k, x) :: xs => p.1 = fS k ∧ RepF cl H p.2 x ∧ RepFf cl H vs xs
  | _, _ => False
termination_by structural _ t => t
end

/-- where an object that may change stands: in one's own hands, or borrowed (then perhaps locked) -/
inductive Md where | own | bor (Bp : Addr → Prop)
def Nd (m : Md) (H : Hp) (a : Addr) (u : HO) : Prop :=
  match m with
  | .own => H a = some u
  | .bor Bp => (∃ o, H a = some (.frz o u)) ∨ (H a = some u ∧ Bp a)

mutual
/-- as: the addresses of its objects that may change, in order -/
def RepO (cl : Clt) (m : Md) (H : Hp) : V → OV → List Addr → Prop
  | v, .fz t, as => as = [] ∧ RepF cl H v t
  | v, .lst xs, as => ∃ a vs bs, v = .ref a ∧ Nd m H a (.lst vs) ∧ as = a :: bs ∧ RepOs cl m H vs xs bs
  | v, .tup xs, as => ∃ a vs, v = .ref a ∧ H a = some (.tup vs) ∧ RepOs cl m H vs xs as
  | v, .dic T kvs, as => ∃ a bs, v = .ref a ∧ as = a :: bs ∧ (if T then ∃ ks, Nd m H a (.dT ks) ∧ RepOt cl m H ks kvs bs else ∃ ks, Nd m H a (.dK ks) ∧ RepOk cl m H ks kvs bs)
  | v, .ins c fs, as => ∃ a C dx gs bs, v = .ref a ∧ cl c = some C ∧ Nd m H a (.ins C dx gs) ∧ as = a :: bs ∧ RepOf cl m H gs fs bs
termination_by structural _ t => t
def RepOs (cl : Clt) (m : Md) (H : Hp) : List V → List OV → List Addr → Prop
  | [], [], as => as = []
  | v :: vs, x :: xs, as => ∃ b c, as = b ++ c ∧ RepO cl m H v x b ∧ RepOs cl m H vs xs c
  | _, _, _ => False
termination_by structural _ t => t
def RepOk (cl : Clt) (m : Md) (H : Hp) : List (Key × V) → List (Ky × OV) → List Addr → Prop
  | [], [], as => as = []
  | p :: vs, (k, x) :: xs, as => ∃ b c, as = b ++ c ∧ KyK k p.1 ∧ RepO cl m H p.2 x b ∧ RepOk cl m H vs xs c
  | _, _, _ => False
termination_by structural _ t => t
def RepOt (cl : Clt) (m : Md) (H : Hp) : List (List Key × V) → List (Ky × OV) → List Addr → Prop
  | [], [], as => as = []
  | p :: vs, (k, x) :: xs, as => ∃ b c, as = b ++ c ∧ KyT k p.1 ∧ RepO cl m H p.2 x b ∧ RepOt cl m H vs xs c
  | _, _, _ => False
termination_by structural _ t => t
def RepOf (cl : Clt) (m : Md) (H : Hp) : List (Str × V) → List (String × OV) → List Addr → Prop
  | [], [], as => as = []
  | p :: vs, (k, x) :: xs, as => ∃ b c, as = b ++ c ∧ p.1 = fS k ∧ RepO cl m H p.2 x b ∧ RepOf cl m H vs xs c
  | _, _, _ => False
termination_by structural _ t => t
end

/-! ### what never changes stays -/
def isF : HO → Bool
  | .frz _ _ => true
  | .tup _ => true
  | _ => false
def FP (H H' : Hp) : Prop := ∀ a u, H a = some u → isF u = true → H' a = some u
theorem FP.refl {H : Hp} : FP H H := fun _ _ h _ => h
theorem FP.trans {H H1 H2 : Hp} (a : FP H H1) (b : FP H1 H2) : FP H H2 := fun x u h f => b x u (a x u h f) f

mutual
theorem RepF.fp {cl : Clt} {H H' : Hp} (f : FP H H') : ∀ {v : V} (t : PV), RepF cl H v t → RepF cl H' v t
  | v, .non, h => h
  | v, .bl _, h => h
  | v, .int _, h => h
  | v, .str _, h => h
  | v, .lst xs, h => by
    simp only [RepF] at h ⊢
    obtain ⟨a, o, vs, e, h1, h2⟩ := h
    exact ⟨a, o, vs, e, f _ _ h1 rfl, RepFs.fp f xs h2⟩
  | v, .tup xs, h => by
    simp only [RepF] at h ⊢
    obtain ⟨a, vs, e, h1, h2⟩ := h
    exact ⟨a, vs, e, f _ _ h1 rfl, RepFs.fp f xs h2⟩
  | v, .dic kvs, h => by
    simp only [RepF] at h ⊢
    obtain ⟨a, o, e, h⟩ := h
    refine ⟨a, o, e, ?_⟩
    rcases h with ⟨ks, h1, h2⟩ | ⟨ks, h1, h2⟩
    · exact .inl ⟨ks, f _ _ h1 rfl, RepFk.fp f kvs h2⟩
    · exact .inr ⟨ks, f _ _ h1 rfl, RepFt.fp f kvs h2⟩
  | v, .ins c fs, h => by
    simp only [RepF] at h ⊢
    obtain ⟨a, o, C, dx, gs, e, hc, h1, h2⟩ := h
    exact ⟨a, o, C, dx, gs, e, hc, f _ _ h1 rfl, RepFf.fp f fs h2⟩
termination_by structural _ t => t
theorem RepFs.fp {cl : Clt} {H H' : Hp} (f : FP H H') : ∀ {vs : List V} (xs : List PV), RepFs cl H vs xs → RepFs cl H' vs xs
  | [], [], h => by simp only [RepFs]
  | v :: vs, x :: xs, h => by
    simp only [RepFs] at h ⊢
    exact ⟨RepF.fp f x h.1, RepFs.fp f xs h.2⟩
  | [], x :: xs, h => by simp [RepFs] at h
  | v :: vs, [], h => by simp [RepFs] at h
termination_by structural _ t => t
theorem RepFk.fp {cl : Clt} {H H' : Hp} (f : FP H H') : ∀ {vs : List (Key × V)} (xs : List (Ky × PV)), RepFk cl H vs xs → RepFk cl H' vs xs
  | [], [], h => by simp only [RepFk]
  | v :: vs, (k, x) :: xs, h => by
    simp only [RepFk] at h ⊢
    exact ⟨h.1, RepF.fp f x h.2.1, RepFk.fp f xs h.2.2⟩
  | [], x :: xs, h => by simp [RepFk] at h
  | v :: vs, [], h => by simp [RepFk] at h
termination_by structural _ t => t
theorem RepFt.fp {cl : Clt} {H H' : Hp} (f : FP H H') : ∀ {vs : List (List Key × V)} (xs : List (Ky × PV)), RepFt cl H vs xs → RepFt cl H' vs xs
  | [], [], h => by simp only [RepFt]
  | v :: vs, (k, x) :: xs, h => by
    simp only [RepFt] at h ⊢
    exact ⟨h.1, RepF.fp f x h.2.1, RepFt.fp f xs h.2.2⟩
  | [], x :: xs, h => by simp [RepFt] at h
  | v :: vs, [], h => by simp [RepFt] at h
termination_by structural _ t => t
theorem RepFf.fp {cl : Clt} {H H' : Hp} (f : FP H H') : ∀ {vs : List (Str × V)} (xs : List (String × PV)), RepFf cl H vs xs → RepFf cl H' vs xs
  | [], [], h => by simp only [RepFf]
  | v :: vs, (k, x) :: xs, h => by
    simp only [RepFf] at h ⊢
    exact ⟨h.1, RepF.fp f x h.2.1, RepFf.fp f xs h.2.2⟩
  | [], x :: xs, h => by simp [RepFf] at h
  | v :: vs, [], h => by simp [RepFf] at h
termination_by structural _ t => t
end

section
variable {cl : Clt} {m m' : Md} {H H' : Hp}
mutual
theorem RepO.tr (f : FP H H') : ∀ {v : V} (o : OV) {as : List Addr}, RepO cl m H v o as → (∀ a u, a ∈ as → Nd m H a u → Nd m' H' a u) → RepO cl m' H' v o as
  | v, .fz t, as, h, k => by
    simp only [RepO] at h ⊢
    exact ⟨h.1, RepF.fp f t h.2⟩
  | v, .lst xs, as, h, k => by
    simp only [RepO] at h ⊢
    obtain ⟨a, vs, bs, e, h1, e2, h2⟩ := h
    subst e2
    exact ⟨a, vs, bs, e, k _ _ List.mem_cons_self h1, rfl, RepOs.tr f xs h2 fun b u hb => k b u (List.mem_cons_of_mem _ hb)⟩
  | v, .tup xs, as, h, k => by
    simp only [RepO] at h ⊢
    obtain ⟨a, vs, e, h1, h2⟩ := h
    exact ⟨a, vs, e, f _ _ h1 rfl, RepOs.tr f xs h2 k⟩
  | v, .dic T kvs, as, h, k => by
    simp only [RepO] at h ⊢
    obtain ⟨a, bs, e, e2, h⟩ := h
    subst e2
    refine ⟨a, bs, e, rfl, ?_⟩
    cases T with
    | true =>
      simp only [if_true] at h ⊢
      obtain ⟨ks, h1, h2⟩ := h
      exact ⟨ks, k _ _ List.mem_cons_self h1, RepOt.tr f kvs h2 fun b u hb => k b u (List.mem_cons_of_mem _ hb)⟩
    | false =>
      simp only [Bool.false_eq_true, if_false] at h ⊢
      obtain ⟨ks, h1, h2⟩ := h
      exact ⟨ks, k _ _ List.mem_cons_self h1, RepOk.tr f kvs h2 fun b u hb => k b u (List.mem_cons_of_mem _ hb)⟩
  | v, .ins c fs, as, h, k => by
    simp only [RepO] at h ⊢
    obtain ⟨a, C, dx, gs, bs, e, hc, h1, e2, h2⟩ := h
    subst e2
    exact ⟨a, C, dx, gs, bs, e, hc, k _ _ List.mem_cons_self h1, rfl, RepOf.tr f fs h2 fun b u hb => k b u (List.mem_cons_of_mem _ hb)⟩
termination_by structural _ o => o
theorem RepOs.tr (f : FP H H') : ∀ {vs : List V} (xs : List OV) {as : List Addr}, RepOs cl m H vs xs as → (∀ a u, a ∈ as → Nd m H a u → Nd m' H' a u) → RepOs cl m' H' vs xs as
  | [], [], as, h, k => by simpa only [RepOs] using h
  | v :: vs, x :: xs, as, h, k => by
    simp only [RepOs] at h ⊢
    obtain ⟨b, c, e, h1, h2⟩ := h
    subst e
    exact ⟨b, c, rfl, RepO.tr f x h1 fun a u ha => k a u (List.mem_append_left _ ha), RepOs.tr f xs h2 fun a u ha => k a u (List.mem_append_right _ ha)⟩
  | [], x :: xs, as, h, k => by simp [RepOs] at h
  | v :: vs, [], as, h, k => by simp [RepOs] at h
termination_by structural _ o => o
theorem RepOk.tr (f : FP H H') : ∀ {vs : List (Key × V)} (xs : List (Ky × OV)) {as : List Addr}, RepOk cl m H vs xs as → (∀ a u, a ∈ as → Nd m H a u → Nd m' H' a u) → RepOk cl m' H' vs xs as
  | [], [], as, h, k => by simpa only [RepOk] using h
  | v :: vs, (q, x) :: xs, as, h, k => by
    simp only [RepOk] at h ⊢
    obtain ⟨b, c, e, h0, h1, h2⟩ := h
    subst e
    exact ⟨b, c, rfl, h0, RepO.tr f x h1 fun a u ha => k a u (List.mem_append_left _ ha), RepOk.tr f xs h2 fun a u ha => k a u (List.mem_append_right _ ha)⟩
  | [], x :: xs, as, h, k => by simp [RepOk] at h
  | v :: vs, [], as, h, k => by simp [RepOk] at h
termination_by structural _ o => o
theorem RepOt.tr (f : FP H H') : ∀ {vs : List (List Key × V)} (xs : List (Ky × OV)) {as : List Addr}, RepOt cl m H vs xs as → (∀ a u, a ∈ as → Nd m H a u → Nd m' H' a u) → RepOt cl m' H' vs xs as
  | [], [], as, h, k => by simpa only [RepOt] using h
  | v :: vs, (q, x) :: xs, as, h, k => by
    simp only [RepOt] at h ⊢
    obtain ⟨b, c, e, h0, h1, h2⟩ := h
    subst e
    exact ⟨b, c, rfl, h0, RepO.tr f x h1 fun a u ha => k a u (List.mem_append_left _ ha), RepOt.tr f xs h2 fun a u ha => k a u (List.mem_append_right _ ha)⟩
  | [], x :: xs, as, h, k => by simp [RepOt] at h
  | v :: vs, [], as, h, k => by simp [RepOt] at h
termination_by structural _ o => o
theorem RepOf.tr (f : FP H H') : ∀ {vs : List (Str × V)} (xs : List (String × OV)) {as : List Addr}, RepOf cl m H vs xs as → (∀ a u, a ∈ as → Nd m H a u → Nd m' H' a u) → RepOf cl m' H' vs xs as
  | [], [], as, h, k => by simpa only [RepOf] using h
  | v :: vs, (q, x) :: xs, as, h, k => by
    simp only [RepOf] at h ⊢
    obtain ⟨b, c, e, h0, h1, h2⟩ := h
    subst e
    exact ⟨b, c, rfl, h0, RepO.tr f x h1 fun a u ha => k a u (List.mem_append_left _ ha), RepOf.tr f xs h2 fun a u ha => k a u (List.mem_append_right _ ha)⟩
  | [], x :: xs, as, h, k => by simp [RepOf] at h
  | v :: vs, [], as, h, k => by simp [RepOf] at h
termination_by structural _ o => o
end
end

section
variable {cl : Clt} {H H' : Hp}
mutual
theorem RepO.freeze (f : FP H H') : ∀ {v : V} (o : OV) {as : List Addr}, RepO cl .own H v o as → (∀ a u, a ∈ as → H a = some u → ∃ od, H' a = some (.frz od u)) → RepF cl H' v o.view
  | v, .fz t, as, h, k => by
    simp only [RepO] at h
    simp only [OV.view]
    exact RepF.fp f t h.2
  | v, .lst xs, as, h, k => by
    simp only [RepO] at h
    simp only [OV.view, RepF]
    obtain ⟨a, vs, bs, e, h1, e2, h2⟩ := h
    subst e2
    obtain ⟨od, h3⟩ := k _ _ List.mem_cons_self h1
    exact ⟨a, od, vs, e, h3, RepOs.freeze f xs h2 fun b u hb => k b u (List.mem_cons_of_mem _ hb)⟩
  | v, .tup xs, as, h, k => by
    simp only [RepO] at h
    simp only [OV.view, RepF]
    obtain ⟨a, vs, e, h1, h2⟩ := h
    exact ⟨a, vs, e, f _ _ h1 rfl, RepOs.freeze f xs h2 k⟩
  | v, .dic T kvs, as, h, k => by
    simp only [RepO] at h
    simp only [OV.view, RepF]
    obtain ⟨a, bs, e, e2, h⟩ := h
    subst e2
    cases T with
    | true =>
      simp only [if_true] at h
      obtain ⟨ks, h1, h2⟩ := h
      obtain ⟨od, h3⟩ := k _ _ List.mem_cons_self h1
      exact ⟨a, od, e, .inr ⟨ks, h3, RepOt.freeze f kvs h2 fun b u hb => k b u (List.mem_cons_of_mem _ hb)⟩⟩
    | false =>
      simp only [Bool.false_eq_true, if_false] at h
      obtain ⟨ks, h1, h2⟩ := h
      obtain ⟨od, h3⟩ := k _ _ List.mem_cons_self h1
      exact ⟨a, od, e, .inl ⟨ks, h3, RepOk.freeze f kvs h2 fun b u hb => k b u (List.mem_cons_of_mem _ hb)⟩⟩
  | v, .ins c fs, as, h, k => by
    simp only [RepO] at h
    simp only [OV.view, RepF]
    obtain ⟨a, C, dx, gs, bs, e, hc, h1, e2, h2⟩ := h
    subst e2
    obtain ⟨od, h3⟩ := k _ _ List.mem_cons_self h1
    exact ⟨a, od, C, dx, gs, e, hc, h3, RepOf.freeze f fs h2 fun b u hb => k b u (List.mem_cons_of_mem _ hb)⟩
termination_by structural _ o => o
theorem RepOs.freeze (f : FP H H') : ∀ {vs : List V} (xs : List OV) {as : List Addr}, RepOs cl .own H vs xs as → (∀ a u, a ∈ as → H a = some u → ∃ od, H' a = some (.frz od u)) → RepFs cl H' vs (views xs)
  | [], [], as, h, k => by simp only [views, RepFs]
  | v :: vs, x :: xs, as, h, k => by
    simp only [RepOs] at h
    simp only [views, RepFs]
    obtain ⟨b, c, e, h1, h2⟩ := h
    subst e
    exact ⟨RepO.freeze f x h1 fun a u ha => k a u (List.mem_append_left _ ha), RepOs.freeze f xs h2 fun a u ha => k a u (List.mem_append_right _ ha)⟩
  | [], x :: xs, as, h, k => by simp [RepOs] at h
  | v :: vs, [], as, h, k => by simp [RepOs] at h
termination_by structural _ o => o
theorem RepOk.freeze (f : FP H H') : ∀ {vs : List (Key × V)} (xs : List (Ky × OV)) {as : List Addr}, RepOk cl .own H vs xs as → (∀ a u, a ∈ as → H a = some u → ∃ od, H' a = some (.frz od u)) → RepFk cl H' vs (viewk xs)
  | [], [], as, h, k => by simp only [viewk, RepFk]
  | v :: vs, (q, x) :: xs, as, h, k => by
    simp only [RepOk] at h
    simp only [viewk, RepFk]
    obtain ⟨b, c, e, h0, h1, h2⟩ := h
    subst e
    exact ⟨h0, RepO.freeze f x h1 fun a u ha => k a u (List.mem_append_left _ ha), RepOk.freeze f xs h2 fun a u ha => k a u (List.mem_append_right _ ha)⟩
  | [], x :: xs, as, h, k => by simp [RepOk] at h
  | v :: vs, [], as, h, k => by simp [RepOk] at h
termination_by structural _ o => o
theorem RepOt.freeze (f : FP H H') : ∀ {vs : List (List Key × V)} (xs : List (Ky × OV)) {as : List Addr}, RepOt cl .own H vs xs as → (∀ a u, a ∈ as → H a = some u → ∃ od, H' a = some (.frz od u)) → RepFt cl H' vs (viewk xs)
  | [], [], as, h, k => by simp only [viewk, RepFt]
  | v :: vs, (q, x) :: xs, as, h, k => by
    simp only [RepOt] at h
    simp only [viewk, RepFt]
    obtain ⟨b, c, e, h0, h1, h2⟩ := h
    subst e
    exact ⟨h0, RepO.freeze f x h1 fun a u ha => k a u (List.mem_append_left _ ha), RepOt.freeze f xs h2 fun a u ha => k a u (List.mem_append_right _ ha)⟩
  | [], x :: xs, as, h, k => by simp [RepOt] at h
  | v :: vs, [], as, h, k => by simp [RepOt] at h
termination_by structural _ o => o
theorem RepOf.freeze (f : FP H H') : ∀ {vs : List (Str × V)} (xs : List (String × OV)) {as : List Addr}, RepOf cl .own H vs xs as → (∀ a u, a ∈ as → H a = some u → ∃ od, H' a = some (.frz od u)) → RepFf cl H' vs (viewf xs)
  | [], [], as, h, k => by simp only [viewf, RepFf]
  | v :: vs, (q, x) :: xs, as, h, k => by
    simp only [RepOf] at h
    simp only [viewf, RepFf]
    obtain ⟨b, c, e, h0, h1, h2⟩ := h
    subst e
    exact ⟨h0, RepO.freeze f x h1 fun a u ha => k a u (List.mem_append_left _ ha), RepOf.freeze f xs h2 fun a u ha => k a u (List.mem_append_right _ ha)⟩
  | [], x :: xs, as, h, k => by simp [RepOf] at h
  | v :: vs, [], as, h, k => by simp [RepOf] at h
termination_by structural _ o => o
end
end

/-! ### what is read, whoever holds it -/
mutual
def RdT (cl : Clt) (H : Hp) : V → PV → Prop
  | v, .non => v = .non
  | v, .bl b => v = .bl b
  | v, .int i => v = .int i
  | v, .str s => v = .str (tS s)
  | v, .lst xs => ∃ a vs, v = .ref a ∧ Rd H a (.lst vs) ∧ RdTs cl H vs xs
  | v, .tup xs => ∃ a vs, v = .ref a ∧ H a = some (.tup vs) ∧ RdTs cl H vs xs
  | v, .dic kvs => ∃ a, v = .ref a ∧ ((∃ ks, Rd H a (.dK ks) ∧ RdTk cl H ks kvs) ∨ ∃ ks, Rd H a (.dT ks) ∧ RdTt cl H ks kvs)
  | v, .ins c fs => ∃ a C dx gs, v = .ref a ∧ cl c = some C ∧ Rd H a (.ins C dx gs) ∧ RdTf cl H gs fs
termination_by structural _ t => t
def RdTs (cl : Clt) (H : Hp) : List V → List PV → Prop
  | [], [] => True
  | v :: vs, x :: xs => RdT cl H v x ∧ RdTs cl H vs xs
  | _, _ => False
termination_by structural _ t => t
def RdTk (cl : Clt) (H : Hp) : List (Key × V) → List (Ky × PV) → Prop
  | [], [] => True
  | p :: vs, (k, x) :: xs => KyK k p.1 ∧ RdT cl H p.2 x ∧ RdTk cl H vs xs
  | _, _ => False
termination_by structural _ t => t
def RdTt (cl : Clt) (H : Hp) : List (List Key × V) → List (Ky × PV) → Prop
  | [], [] => True
  | p :: vs, (k, x) :: xs => KyT k p.1 ∧ RdT cl H p.2 x ∧ RdTt cl H vs xs
  | _, _ => False
termination_by structural _ t => t
def RdTf (cl : Clt) (H : Hp) : List (Str × V) → List (String × PV) → Prop
  | [], [] => True
  | p :: vs, (k, x) :: xs => p.1 = fS k ∧ RdT cl H p.2 x ∧ RdTf cl H vs xs
  | _, _ => False
termination_by structural _ t => t
end
theorem Nd.rd {m : Md} {H : Hp} {a : Addr} {u : HO} (h : Nd m H a u) : Rd H a u := by
  cases m with
  | own => exact .inl h
  | bor Bp =>
    rcases h with ⟨o, h⟩ | ⟨h, _⟩
    · exact .inr ⟨o, h⟩
    · exact .inl h
section
variable {cl : Clt} {m : Md} {H : Hp}
mutual
theorem RepF.rd : ∀ {v : V} (t : PV), RepF cl H v t → RdT cl H v t
  | v, .non, h => h
  | v, .bl _, h => h
  | v, .int _, h => h
  | v, .str _, h => h
  | v, .lst xs, h => by
    simp only [RepF] at h
    simp only [RdT]
    obtain ⟨a, o, vs, e, h1, h2⟩ := h
    exact ⟨a, vs, e, .inr ⟨o, h1⟩, RepFs.rd xs h2⟩
  | v, .tup xs, h => by
    simp only [RepF] at h
    simp only [RdT]
    obtain ⟨a, vs, e, h1, h2⟩ := h
    exact ⟨a, vs, e, h1, RepFs.rd xs h2⟩
  | v, .dic kvs, h => by
    simp only [RepF] at h
    simp only [RdT]
    obtain ⟨a, o, e, h⟩ := h
    refine ⟨a, e, ?_⟩
    rcases h with ⟨ks, h1, h2⟩ | ⟨ks, h1, h2⟩
    · exact .inl ⟨ks, .inr ⟨o, h1⟩, RepFk.rd kvs h2⟩
    · exact .inr ⟨ks, .inr ⟨o, h1⟩, RepFt.rd kvs h2⟩
  | v, .ins c fs, h => by
    simp only [RepF] at h
    simp only [RdT]
    obtain ⟨a, o, C, dx, gs, e, hc, h1, h2⟩ := h
    exact ⟨a, C, dx, gs, e, hc, .inr ⟨o, h1⟩, RepFf.rd fs h2⟩
termination_by structural _ t => t
theorem RepFs.rd : ∀ {vs : List V} (xs : List PV), RepFs cl H vs xs → RdTs cl H vs xs
  | [], [], h => by simp only [RdTs]
  | v :: vs, x :: xs, h => by
    simp only [RepFs] at h
    simp only [RdTs]
    exact ⟨RepF.rd x h.1, RepFs.rd xs h.2⟩
  | [], x :: xs, h => by simp [RepFs] at h
  | v :: vs, [], h => by simp [RepFs] at h
termination_by structural _ t => t
theorem RepFk.rd : ∀ {vs : List (Key × V)} (xs : List (Ky × PV)), RepFk cl H vs xs → RdTk cl H vs xs
  | [], [], h => by simp only [RdTk]
  | v :: vs, (k, x) :: xs, h => by
    simp only [RepFk] at h
    simp only [RdTk]
    exact ⟨h.1, RepF.rd x h.2.1, RepFk.rd xs h.2.2⟩
  | [], x :: xs, h => by simp [RepFk] at h
  | v :: vs, [], h => by simp [RepFk] at h
termination_by structural _ t => t
theorem RepFt.rd : ∀ {vs : List (List Key × V)} (xs : List (Ky × PV)), RepFt cl H vs xs → RdTt cl H vs xs
  | [], [], h => by simp only [RdTt]
  | v :: vs, (k, x) :: xs, h => by
    simp only [RepFt] at h
    simp only [RdTt]
    exact ⟨h.1, RepF.rd x h.2.1, RepFt.rd xs h.2.2⟩
  | [], x :: xs, h => by simp [RepFt] at h
  | v :: vs, [], h => by simp [RepFt] at h
termination_by structural _ t => t
theorem RepFf.rd : ∀ {vs : List (Str × V)} (xs : List (String × PV)), RepFf cl H vs xs → RdTf cl H vs xs
  | [], [], h => by simp only [RdTf]
  | v :: vs, (k, x) :: xs, h => by
    simp only [RepFf] at h
    simp only [RdTf]
    exact ⟨h.1, RepF.rd x h.2.1, RepFf.rd xs h.2.2⟩
  | [], x :: xs, h => by simp [RepFf] at h
  | v :: vs, [], h => by simp [RepFf] at h
termination_by structural _ t => t
end
mutual
theorem RepO.rd : ∀ {v : V} (o : OV) {as : List Addr}, RepO cl m H v o as → RdT cl H v o.view
  | v, .fz t, as, h => by
    simp only [RepO] at h
    simp only [OV.view]
    exact RepF.rd t h.2
  | v, .lst xs, as, h => by
    simp only [RepO] at h
    simp only [OV.view, RdT]
    obtain ⟨a, vs, bs, e, h1, e2, h2⟩ := h
    exact ⟨a, vs, e, h1.rd, RepOs.rd xs h2⟩
  | v, .tup xs, as, h => by
    simp only [RepO] at h
    simp only [OV.view, RdT]
    obtain ⟨a, vs, e, h1, h2⟩ := h
    exact ⟨a, vs, e, h1, RepOs.rd xs h2⟩
  | v, .dic T kvs, as, h => by
    simp only [RepO] at h
    simp only [OV.view, RdT]
    obtain ⟨a, bs, e, e2, h⟩ := h
    cases T with
    | true =>
      simp only [if_true] at h
      obtain ⟨ks, h1, h2⟩ := h
      exact ⟨a, e, .inr ⟨ks, h1.rd, RepOt.rd kvs h2⟩⟩
    | false =>
      simp only [Bool.false_eq_true, if_false] at h
      obtain ⟨ks, h1, h2⟩ := h
      exact ⟨a, e, .inl ⟨ks, h1.rd, RepOk.rd kvs h2⟩⟩
  | v, .ins c fs, as, h => by
    simp only [RepO] at h
    simp only [OV.view, RdT]
    obtain ⟨a, C, dx, gs, bs, e, hc, h1, e2, h2⟩ := h
    exact ⟨a, C, dx, gs, e, hc, h1.rd, RepOf.rd fs h2⟩
termination_by structural _ o => o
theorem RepOs.rd : ∀ {vs : List V} (xs : List OV) {as : List Addr}, RepOs cl m H vs xs as → RdTs cl H vs (views xs)
  | [], [], as, h => by simp only [views, RdTs]
  | v :: vs, x :: xs, as, h => by
    simp only [RepOs] at h
    simp only [views, RdTs]
    obtain ⟨b, c, e, h1, h2⟩ := h
    exact ⟨RepO.rd x h1, RepOs.rd xs h2⟩
  | [], x :: xs, as, h => by simp [RepOs] at h
  | v :: vs, [], as, h => by simp [RepOs] at h
termination_by structural _ o => o
theorem RepOk.rd : ∀ {vs : List (Key × V)} (xs : List (Ky × OV)) {as : List Addr}, RepOk cl m H vs xs as → RdTk cl H vs (viewk xs)
  | [], [], as, h => by simp only [viewk, RdTk]
  | v :: vs, (q, x) :: xs, as, h => by
    simp only [RepOk] at h
    simp only [viewk, RdTk]
    obtain ⟨b, c, e, h0, h1, h2⟩ := h
    exact ⟨h0, RepO.rd x h1, RepOk.rd xs h2⟩
  | [], x :: xs, as, h => by simp [RepOk] at h
  | v :: vs, [], as, h => by simp [RepOk] at h
termination_by structural _ o => o
theorem RepOt.rd : ∀ {vs : List (List Key × V)} (xs : List (Ky × OV)) {as : List Addr}, RepOt cl m H vs xs as → RdTt cl H vs (viewk xs)
  | [], [], as, h => by simp only [viewk, RdTt]
  | v :: vs, (q, x) :: xs, as, h => by
    simp only [RepOt] at h
    simp only [viewk, RdTt]
    obtain ⟨b, c, e, h0, h1, h2⟩ := h
    exact ⟨h0, RepO.rd x h1, RepOt.rd xs h2⟩
  | [], x :: xs, as, h => by simp [RepOt] at h
  | v :: vs, [], as, h => by simp [RepOt] at h
termination_by structural _ o => o
theorem RepOf.rd : ∀ {vs : List (Str × V)} (xs : List (String × OV)) {as : List Addr}, RepOf cl m H vs xs as → RdTf cl H vs (viewf xs)
  | [], [], as, h => by simp only [viewf, RdTf]
  | v :: vs, (q, x) :: xs, as, h => by
    simp only [RepOf] at h
    simp only [viewf, RdTf]
    obtain ⟨b, c, e, h0, h1, h2⟩ := h
    exact ⟨h0, RepO.rd x h1, RepOf.rd xs h2⟩
  | [], x :: xs, as, h => by simp [RepOf] at h
  | v :: vs, [], as, h => by simp [RepOf] at h
termination_by structural _ o => o
end

def MutU (H : Hp) (a : Addr) : Prop := ∃ u, H a = some u ∧ Mut (some u)
mutual
theorem RepO.mut : ∀ {v : V} (o : OV) {as : List Addr}, RepO cl .own H v o as → ∀ a ∈ as, MutU H a
  | v, .fz t, as, h => by
    simp only [RepO] at h
    rw [h.1]
    intro a ha
    exact absurd ha List.not_mem_nil
  | v, .lst xs, as, h => by
    simp only [RepO] at h
    obtain ⟨a, vs, bs, e, h1, e2, h2⟩ := h
    subst e2
    intro b hb
    rcases List.mem_cons.mp hb with rfl | hb
    · exact ⟨_, h1, trivial⟩
    · exact RepOs.mut xs h2 b hb
  | v, .tup xs, as, h => by
    simp only [RepO] at h
    obtain ⟨a, vs, e, h1, h2⟩ := h
    exact RepOs.mut xs h2
  | v, .dic T kvs, as, h => by
    simp only [RepO] at h
    obtain ⟨a, bs, e, e2, h⟩ := h
    subst e2
    intro b hb
    cases T with
    | true =>
      simp only [if_true] at h
      obtain ⟨ks, h1, h2⟩ := h
      rcases List.mem_cons.mp hb with rfl | hb
      · exact ⟨_, h1, trivial⟩
      · exact RepOt.mut kvs h2 b hb
    | false =>
      simp only [Bool.false_eq_true, if_false] at h
      obtain ⟨ks, h1, h2⟩ := h
      rcases List.mem_cons.mp hb with rfl | hb
      · exact ⟨_, h1, trivial⟩
      · exact RepOk.mut kvs h2 b hb
  | v, .ins c fs, as, h => by
    simp only [RepO] at h
    obtain ⟨a, C, dx, gs, bs, e, hc, h1, e2, h2⟩ := h
    subst e2
    intro b hb
    rcases List.mem_cons.mp hb with rfl | hb
    · exact ⟨_, h1, trivial⟩
    · exact RepOf.mut fs h2 b hb
termination_by structural _ o => o
theorem RepOs.mut : ∀ {vs : List V} (xs : List OV) {as : List Addr}, RepOs cl .own H vs xs as → ∀ a ∈ as, MutU H a
  | [], [], as, h => by
    simp only [RepOs] at h
    rw [h]
    intro a ha
    exact absurd ha List.not_mem_nil
  | v :: vs, x :: xs, as, h => by
    simp only [RepOs] at h
    obtain ⟨b, c, e, h1, h2⟩ := h
    subst e
    intro a ha
    rcases List.mem_append.mp ha with ha | ha
    · exact RepO.mut x h1 a ha
    · exact RepOs.mut xs h2 a ha
  | [], x :: xs, as, h => by simp [RepOs] at h
  | v :: vs, [], as, h => by simp [RepOs] at h
termination_by structural _ o => o
theorem RepOk.mut : ∀ {vs : List (Key × V)} (xs : List (Ky × OV)) {as : List Addr}, RepOk cl .own H vs xs as → ∀ a ∈ as, MutU H a
  | [], [], as, h => by
    simp only [RepOk] at h
    rw [h]
    intro a ha
    exact absurd ha List.not_mem_nil
  | v :: vs, (q, x) :: xs, as, h => by
    simp only [RepOk] at h
    obtain ⟨b, c, e, h0, h1, h2⟩ := h
    subst e
    intro a ha
    rcases List.mem_append.mp ha with ha | ha
    · exact RepO.mut x h1 a ha
    · exact RepOk.mut xs h2 a ha
  | [], x :: xs, as, h => by simp [RepOk] at h
  | v :: vs, [], as, h => by simp [RepOk] at h
termination_by structural _ o => o
theorem RepOt.mut : ∀ {vs : List (List Key × V)} (xs : List (Ky × OV)) {as : List Addr}, RepOt cl .own H vs xs as → ∀ a ∈ as, MutU H a
  | [], [], as, h => by
    simp only [RepOt] at h
    rw [h]
    intro a ha
    exact absurd ha List.not_mem_nil
  | v :: vs, (q, x) :: xs, as, h => by
    simp only [RepOt] at h
    obtain ⟨b, c, e, h0, h1, h2⟩ := h
    subst e
    intro a ha
    rcases List.mem_append.mp ha with ha | ha
    · exact RepO.mut x h1 a ha
    · exact RepOt.mut xs h2 a ha
  | [], x :: xs, as, h => by simp [RepOt] at h
  | v :: vs, [], as, h => by simp [RepOt] at h
termination_by structural _ o => o
theorem RepOf.mut : ∀ {vs : List (Str × V)} (xs : List (String × OV)) {as : List Addr}, RepOf cl .own H vs xs as → ∀ a ∈ as, MutU H a
  | [], [], as, h => by
    simp only [RepOf] at h
    rw [h]
    intro a ha
    exact absurd ha List.not_mem_nil
  | v :: vs, (q, x) :: xs, as, h => by
    simp only [RepOf] at h
    obtain ⟨b, c, e, h0, h1, h2⟩ := h
    subst e
    intro a ha
    rcases List.mem_append.mp ha with ha | ha
    · exact RepO.mut x h1 a ha
    · exact RepOf.mut xs h2 a ha
  | [], x :: xs, as, h => by simp [RepOf] at h
  | v :: vs, [], as, h => by simp [RepOf] at h
termination_by structural _ o => o
end
end

end PTS

set_option linter.all false
set_option maxRecDepth 100000
/-! the state's relation, what an expression's end says -/
namespace PTS
open PySem L2 PT

def SlotOk (cl : Clt) (Bp : Addr → Prop) (H : Hp) (ov : Option (Option V)) : SV → List Addr → Prop
  | .un, as => as = []
  | .own o, as => ∃ v, ov = some (some v) ∧ RepO cl .own H v o as
  | .bor o, as => as = [] ∧ ∃ v bs, ov = some (some v) ∧ RepO cl (.bor Bp) H v o bs

structure Rel (cl : Clt) (Bp : Addr → Prop) (H : Hp) (σ : St) (env : PT.Env) (A : List (List Addr)) : Prop where
  len : env.length = σ.length
  lenA : A.length = σ.length
  slot : ∀ i, SlotOk cl Bp H (σ[i]?) (env.at i) (A.getD i [])
  nd : A.flatten.Nodup
  dis : ∀ a ∈ A.flatten, ¬ Bp a
  bpt : ∀ a, Bp a → ∃ u, H a = some u

/-- from H, where T is one's own, to H', where T' is -/
structure Stp (T : List Addr) (H : Hp) (T' : List Addr) (H' : Hp) : Prop where
  keep : ∀ a u, H a = some u → a ∉ T → H' a = some u
  fresh : ∀ a, a ∈ T' → a ∈ T ∨ H a = none
theorem Stp.refl {T : List Addr} {H : Hp} : Stp T H T H := ⟨fun _ _ h _ => h, fun _ h => .inl h⟩
theorem Stp.trans {T T1 T2 : List Addr} {H H1 H2 : Hp} (a : Stp T H T1 H1) (b : Stp T1 H1 T2 H2) : Stp T H T2 H2 where
  keep := fun x u h n => b.keep x u (a.keep x u h n) fun q => by
    rcases a.fresh x q with q | q
    · exact n q
    · rw [h] at q; cases q
  fresh := fun x q => by
    rcases b.fresh x q with q | q
    · exact a.fresh x q
    · by_cases m : x ∈ T
      · exact .inl m
      · cases e : H x with
        | none => exact .inr rfl
        | some u =>
          rw [a.keep x u e m] at q; cases q
theorem Stp.less {T T1 T2 : List Addr} {H H1 : Hp} (a : Stp T H T1 H1) (h : ∀ x ∈ T2, x ∈ T1) : Stp T H T2 H1 := ⟨a.keep, fun x q => a.fresh x (h x q)⟩
theorem Stp.fp {T T' : List Addr} {H H' : Hp} (a : Stp T H T' H') (h : ∀ x ∈ T, MutU H x) : FP H H' := fun x u e f => a.keep x u e fun q => by
  obtain ⟨w, e2, m⟩ := h x q
  rw [e] at e2
  cases e2
  cases u <;> first | exact absurd f Bool.false_ne_true | exact m

theorem mem_getD {A : List (List Addr)} {i : Nat} {a : Addr} (h : a ∈ A.getD i []) : a ∈ A.flatten := by
  rw [List.getD_eq_getElem?_getD] at h
  cases e : A[i]? with
  | none => rw [e] at h; exact absurd h List.not_mem_nil
  | some as =>
    rw [e] at h
    exact List.mem_flatten.mpr ⟨as, List.mem_of_getElem? e, h⟩
theorem mem_flat {A : List (List Addr)} {a : Addr} (h : a ∈ A.flatten) : ∃ i, a ∈ A.getD i [] := by
  obtain ⟨as, h1, h2⟩ := List.mem_flatten.mp h
  obtain ⟨i, e⟩ := List.getElem?_of_mem h1
  exact ⟨i, by rw [List.getD_eq_getElem?_getD, e]; exact h2⟩
theorem Rel.mut {cl : Clt} {Bp : Addr → Prop} {H : Hp} {σ : St} {env : PT.Env} {A : List (List Addr)} (R : Rel cl Bp H σ env A) : ∀ a ∈ A.flatten, MutU H a := fun a h => by
  obtain ⟨i, h⟩ := mem_flat h
  have q := R.slot i
  cases e : env.at i with
  | un => rw [e] at q; simp only [SlotOk] at q; rw [q] at h; exact absurd h List.not_mem_nil
  | own o => rw [e] at q; obtain ⟨v, _, r⟩ := q; exact RepO.mut o r a h
  | bor o => rw [e] at q; obtain ⟨q, _⟩ := q; rw [q] at h; exact absurd h List.not_mem_nil
/-- own data elsewhere stays own -/
theorem RepO.keep {cl : Clt} {H H' : Hp} {v : V} {o : OV} {as : List Addr} (r : RepO cl .own H v o as) (f : FP H H') (k : ∀ a u, a ∈ as → H a = some u → H' a = some u) : RepO cl .own H' v o as := r.tr f o fun a u h => k a u h
theorem RepO.keepB {cl : Clt} {Bp : Addr → Prop} {H H' : Hp} {v : V} {o : OV} {as : List Addr} (r : RepO cl (.bor Bp) H v o as) (f : FP H H') (k : ∀ a u, Bp a → H a = some u → H' a = some u) : RepO cl (.bor Bp) H' v o as := r.tr f o fun a u _ h => by
  rcases h with ⟨o, h⟩ | ⟨h, b⟩
  · exact .inl ⟨o, f _ _ h rfl⟩
  · exact .inr ⟨k _ _ b h, b⟩
theorem RepO.lend {cl : Clt} {Bp : Addr → Prop} {H : Hp} {v : V} {o : OV} {as : List Addr} (r : RepO cl .own H v o as) (k : ∀ a ∈ as, Bp a) : RepO cl (.bor Bp) H v o as := r.tr FP.refl o fun a u h q => .inr ⟨q, k a h⟩
theorem RepO.wide {cl : Clt} {Bp Bq : Addr → Prop} {H : Hp} {v : V} {o : OV} {as : List Addr} (r : RepO cl (.bor Bp) H v o as) (k : ∀ a, Bp a → Bq a) : RepO cl (.bor Bq) H v o as := r.tr FP.refl o fun a u h q => by
  rcases q with q | ⟨q, b⟩
  · exact .inl q
  · exact .inr ⟨q, k a b⟩
/-- all stays, where nothing that is there changes -/
theorem Rel.all {cl : Clt} {Bp : Addr → Prop} {H H' : Hp} {σ : St} {env : PT.Env} {A : List (List Addr)} (R : Rel cl Bp H σ env A) (k : ∀ a u, H a = some u → H' a = some u) : Rel cl Bp H' σ env A := by
  refine ⟨R.len, R.lenA, fun i => ?_, R.nd, R.dis, fun a b => ?_⟩
  · have q := R.slot i
    cases e : env.at i with
    | un => rw [e] at q; exact q
    | own o => rw [e] at q; obtain ⟨v, z, r⟩ := q; exact ⟨v, z, r.keep (fun _ _ h _ => k _ _ h) fun _ _ _ h => k _ _ h⟩
    | bor o => rw [e] at q; obtain ⟨z, v, bs, z2, r⟩ := q; exact ⟨z, v, bs, z2, r.keepB (fun _ _ h _ => k _ _ h) fun _ _ _ h => k _ _ h⟩
  · obtain ⟨u, h⟩ := R.bpt a b
    exact ⟨u, k _ _ h⟩

def RvOk (cl : Clt) (Bp : Addr → Prop) (H : Hp) (A : List (List Addr)) (v : V) : RV → List Addr → Prop
  | .own o, as => RepO cl .own H v o as
  | .bor i o, as => as = [] ∧ ∃ bs, RepO cl (.bor fun a => a ∈ A.getD i [] ∨ Bp a) H v o bs
theorem RvOk.rd {cl : Clt} {Bp : Addr → Prop} {H : Hp} {A : List (List Addr)} {v : V} {r : RV} {as : List Addr} (h : RvOk cl Bp H A v r as) : RdT cl H v r.t := by
  cases r with
  | own o => exact RepO.rd o h
  | bor i o => obtain ⟨_, bs, h⟩ := h; exact RepO.rd o h

/-- what an expression's end says -/
structure EPost (cl : Clt) (Bp : Addr → Prop) (H : Hp) (σ : St) (A : List (List Addr)) (q : Bool) (r : RV) (env' : PT.Env) (v : V) (H' : Hp) (A' : List (List Addr)) (as : List Addr) : Prop where
  rel : Rel cl Bp H' σ env' A'
  rv : RvOk cl Bp H' A' v r as
  sep : (as ++ A'.flatten).Nodup
  dis : ∀ a ∈ as, ¬ Bp a
  stp : Stp A.flatten H (as ++ A'.flatten) H'
  quiet : q = true → A' = A ∧ ∀ a u, H a = some u → H' a = some u
/-- a new thing is laid, all else stays -/
structure Alloc (cl : Clt) (H : Hp) (v : V) (o : OV) (H' : Hp) (as : List Addr) : Prop where
  rep : RepO cl .own H' v o as
  new : ∀ a ∈ as, H a = none
  nd : as.Nodup
  all : ∀ a u, H a = some u → H' a = some u
theorem Alloc.fz {cl : Clt} {H : Hp} {v : V} {t : PV} (h : RepF cl H v t) : Alloc cl H v (.fz t) H [] :=
  ⟨by simp only [RepO]; exact ⟨trivial, h⟩, fun _ z => absurd z List.not_mem_nil, List.nodup_nil, fun _ _ h => h⟩
theorem Rel.new {cl : Clt} {Bp : Addr → Prop} {H : Hp} {σ : St} {env : PT.Env} {A : List (List Addr)} (R : Rel cl Bp H σ env A) {v : V} {o : OV} {H' : Hp} {as : List Addr} (n : Alloc cl H v o H' as) : EPost cl Bp H σ A true (.own o) env v H' A as := by
  have hA : ∀ a ∈ as, a ∉ A.flatten := fun a h q => by
    obtain ⟨u, e, _⟩ := R.mut a q
    rw [n.new a h] at e; cases e
  refine ⟨R.all n.all, n.rep, ?_, fun a h b => ?_, ⟨fun a u h _ => n.all a u h, fun a h => ?_⟩, fun _ => ⟨rfl, n.all⟩⟩
  · exact List.nodup_append.mpr ⟨n.nd, R.nd, fun a h b hb e => hA a h (e ▸ hb)⟩
  · obtain ⟨u, e⟩ := R.bpt a b
    rw [n.new a h] at e; cases e
  · rcases List.mem_append.mp h with h | h
    · exact .inr (n.new a h)
    · exact .inl h
theorem Rel.same {cl : Clt} {Bp : Addr → Prop} {H : Hp} {σ : St} {env : PT.Env} {A : List (List Addr)} (R : Rel cl Bp H σ env A) {v : V} {t : PV} (h : RepF cl H v t) : EPost cl Bp H σ A true (own t) env v H A [] := R.new (.fz h)
/-- one thing behind another -/
theorem EPost.then {cl : Clt} {Bp : Addr → Prop} {H H1 H2 : Hp} {σ : St} {A A1 A2 : List (List Addr)} {q1 q2 q : Bool} {r1 r2 : RV} {env1 env2 : PT.Env} {v1 v2 : V} {as1 as2 : List Addr}
    (p1 : EPost cl Bp H σ A q1 r1 env1 v1 H1 A1 as1) (p2 : EPost cl Bp H1 σ A1 q2 r2 env2 v2 H2 A2 as2) (hq : q = true → q1 = true ∧ q2 = true) : EPost cl Bp H σ A q r2 env2 v2 H2 A2 as2 where
  rel := p2.rel
  rv := p2.rv
  sep := p2.sep
  dis := p2.dis
  stp := (p1.stp.less fun _ h => List.mem_append_right _ h).trans p2.stp
  quiet := fun e => by
    obtain ⟨a, b⟩ := hq e
    obtain ⟨e1, k1⟩ := p1.quiet a
    obtain ⟨e2, k2⟩ := p2.quiet b
    exact ⟨e2.trans e1, fun a u h => k2 a u (k1 a u h)⟩
/-- what was given ahead still stands: temporaries, and borrowed things behind what is quiet -/
theorem EPost.held {cl : Clt} {Bp : Addr → Prop} {H H1 H2 : Hp} {σ : St} {A A1 A2 : List (List Addr)} {q1 q2 : Bool} {r1 r2 : RV} {env1 env2 : PT.Env} {v1 v2 : V} {as1 as2 : List Addr}
    (p1 : EPost cl Bp H σ A q1 r1 env1 v1 H1 A1 as1) (p2 : EPost cl Bp H1 σ A1 q2 r2 env2 v2 H2 A2 as2) (hb : (r1.isBor && !q2) = false) : RvOk cl Bp H2 A2 v1 r1 as1 := by
  have f := p2.stp.fp p1.rel.mut
  cases r1 with
  | own o =>
    have h : RepO cl .own H1 v1 o as1 := p1.rv
    refine h.keep f fun a u ha e => p2.stp.keep a u e fun z => ?_
    exact (List.nodup_append.mp p1.sep).2.2 a ha a z rfl
  | bor i o =>
    have e : q2 = true := by simpa [RV.isBor] using hb
    obtain ⟨e1, k⟩ := p2.quiet e
    obtain ⟨z, bs, h⟩ := p1.rv
    subst e1
    exact ⟨z, bs, h.tr f o fun a u _ q => by
      rcases q with ⟨o, q⟩ | ⟨q, b⟩
      · exact .inl ⟨o, k _ _ q⟩
      · exact .inr ⟨k _ _ q, b⟩⟩
/-- temporaries of both are apart -/
theorem EPost.apart {cl : Clt} {Bp : Addr → Prop} {H H1 H2 : Hp} {σ : St} {A A1 A2 : List (List Addr)} {q1 q2 : Bool} {r1 r2 : RV} {env1 env2 : PT.Env} {v1 v2 : V} {as1 as2 : List Addr}
    (p1 : EPost cl Bp H σ A q1 r1 env1 v1 H1 A1 as1) (p2 : EPost cl Bp H1 σ A1 q2 r2 env2 v2 H2 A2 as2) : ∀ a ∈ as1, a ∉ as2 ++ A2.flatten := fun a h z => by
  rcases p2.stp.fresh a z with z | z
  · exact (List.nodup_append.mp p1.sep).2.2 a h a z rfl
  · cases r1 with
    | own o =>
      obtain ⟨u, e, _⟩ := RepO.mut o (show RepO cl .own H1 v1 o as1 from p1.rv) a h
      rw [z] at e; cases e
    | bor i o =>
      obtain ⟨q, _⟩ := p1.rv
      rw [q] at h
      exact absurd h List.not_mem_nil
end PTS

set_option linter.all false
set_option maxRecDepth 100000
/-! the readings; operators -/
namespace PTS
open PySem L2 PT

def XcOk (cl xc : Clt) (H : Hp) (x : Ex) (cls : Value) (d : Option Addr) : Prop :=
  ∃ C, cls = .ref C ∧ xc x.1 = some C ∧ match d with
    | none => x.2 = []
    | some dx => ∃ gs, H dx = some (.xd gs) ∧ RepFf cl H gs x.2
structure XPost (cl xc : Clt) (Bp : Addr → Prop) (H : Hp) (σ : St) (A : List (List Addr)) (x : Ex) (env' : PT.Env) (cls : Value) (d : Option Addr) (H' : Hp) (A' : List (List Addr)) : Prop where
  rel : Rel cl Bp H' σ env' A'
  stp : Stp A.flatten H A'.flatten H'
  xc : XcOk cl xc H' x cls d
theorem XPost.behind {cl xc : Clt} {Bp : Addr → Prop} {H H1 H' : Hp} {σ : St} {A A1 A' : List (List Addr)} {q : Bool} {r : RV} {env1 env' : PT.Env} {v : V} {as : List Addr} {x : Ex} {cls : Value} {d : Option Addr}
    (p : EPost cl Bp H σ A q r env1 v H1 A1 as) (z : XPost cl xc Bp H1 σ A1 x env' cls d H' A') : XPost cl xc Bp H σ A x env' cls d H' A' :=
  ⟨z.rel, (p.stp.less fun _ h => List.mem_append_right _ h).trans z.stp, z.xc⟩

/-- a step of the evaluator as a reading -/
def TM (cl xc : Clt) (W : WX) (q : Bool) (f : M RV) : TE := fun σ H Q => ∃ Bp env A c env', Rel cl Bp H σ env A ∧ f env = some (c, env') ∧
  match c with
  | .ok r => ∀ v H' A' as, EPost cl Bp H σ A q r env' v H' A' as → Q v H'
  | .error x => ∀ cls d H' A', XPost cl xc Bp H σ A x env' cls d H' A' → W cls d σ H'
abbrev TEv (cl xc : Clt) (W : WX) (C : Cxt) (m : ME) : TE := TM cl xc W (quiet m) (evE C m)

theorem PE.imp {X : Cx} {e : Expr} {t t' : TE} (h : PE X e t) (k : ∀ σ H Q, t' σ H Q → t σ H Q) : PE X e t' := ⟨fun pins s σ H Q I q => h.run pins s σ H Q I (k σ H Q q)⟩
theorem PT'.imp {X : Cx} {e : Expr} {t t' : TT} (h : L2.PT X e t) (k : ∀ σ H Q, t' σ H Q → t σ H Q) : L2.PT X e t' := ⟨fun pins s σ H Q I q => h.run pins s σ H Q I (k σ H Q q)⟩
theorem PA.imp {X : Cx} {e : List Expr} {t t' : TA} (h : PA X e t) (k : ∀ σ H Q, t' σ H Q → t σ H Q) : PA X e t' := ⟨fun pos pins s σ H Q I q => h.run pos pins s σ H Q I (k σ H Q q)⟩
theorem OpR.imp {X : Cx} {f : Value → Value → Sem Value} {r r' : R2} (h : OpR X f r) (k : ∀ x y H Q, r' x y H Q → r x y H Q) : OpR X f r' := fun pins s σ H x y v u Q I rx ry q => h pins s σ H x y v u Q I rx ry (k x y H Q q)

section
variable {cl xc : Clt} {W : WX} {C : Cxt} {X : Cx}

/-- a value by its tree, new things laid -/
def rB (cl : Clt) (f : PV → PV → Option OV) : R2 := fun x y H Q => ∃ t u o, RdT cl H x t ∧ RdT cl H y u ∧ f t u = some o ∧ ∀ v H' as, Alloc cl H v o H' as → Q v H'
theorem rB.int {f : PV → PV → Option OV} {x y : V} {H : Hp} {Q : VK} {t u : PV} {i : Int} (e : f t u = some (.fz (.int i))) {o : OV} (e2 : f t u = some o) (k : ∀ v H' as, Alloc cl H v o H' as → Q v H') : Q (.int i) H := by
  rw [e] at e2
  cases e2
  exact k _ _ _ (.fz (by simp only [RepF]))
theorem rB.bl {f : PV → PV → Option OV} {H : Hp} {Q : VK} {t u : PV} {b : Bool} (e : f t u = some (.fz (.bl b))) {o : OV} (e2 : f t u = some o) (k : ∀ v H' as, Alloc cl H v o H' as → Q v H') : Q (.bl b) H := by
  rw [e] at e2
  cases e2
  exact k _ _ _ (.fz (by simp only [RepF]))

/-! ### the smallest expressions -/
theorem te_con {m : ME} {t : PV} {v : V} (hm : (ev C m).1 = M.own t) (hq : quiet m = true) (hr : ∀ H, RepF cl H v t) (σ : St) (H : Hp) (Q : VK) (h : TEv cl xc W C m σ H Q) : tC v σ H Q := by
  obtain ⟨Bp, env, A, c, env', R, e, k⟩ := h
  have e : M.own t env = some (c, env') := by rw [← hm]; exact e
  cases e
  rw [hq] at k
  exact k _ _ _ _ (R.same (hr H))
theorem te_int {i : Int} {j pos} : PE X (.Constant (.int i) j pos) (TEv cl xc W C (.con (.int i))) := PE.imp pe_int fun σ H Q h => te_con (t := .int i) rfl rfl (fun _ => by simp only [RepF]) σ H Q h
theorem te_bl {b : Bool} {j pos} : PE X (.Constant (.bool b) j pos) (TEv cl xc W C (.con (.bl b))) := PE.imp pe_bl fun σ H Q h => te_con (t := .bl b) rfl rfl (fun _ => by simp only [RepF]) σ H Q h
theorem te_non {j pos} : PE X (.Constant .none j pos) (TEv cl xc W C (.con .non)) := PE.imp pe_non fun σ H Q h => te_con (t := .non) rfl rfl (fun _ => by simp only [RepF]) σ H Q h
theorem te_str {t : Tx} {j pos} : PE X (.Constant (.str (tS t)) j pos) (TEv cl xc W C (.con (.str t))) := PE.imp pe_str fun σ H Q h => te_con (t := .str t) rfl rfl (fun _ => by simp only [RepF]) σ H Q h

/-- a borrowed slot, read -/
theorem Rel.read {Bp : Addr → Prop} {H : Hp} {σ : St} {env : PT.Env} {A : List (List Addr)} (R : Rel cl Bp H σ env A) {i : Nat} {r : RV} (e : rdVar i env = some (.ok r, env)) : ∃ v, σ[i]? = some (some v) ∧ EPost cl Bp H σ A true r env v H A [] := by
  have q := R.slot i
  have fin : ∀ (o : OV) (v : V) (bs : List Addr), RepO cl (.bor fun a => a ∈ A.getD i [] ∨ Bp a) H v o bs → mkBor i o = r → EPost cl Bp H σ A true r env v H A [] := fun o v bs ro er => by
    refine ⟨R, ?_, by simpa using R.nd, fun a h => absurd h List.not_mem_nil, Stp.refl, fun _ => ⟨rfl, fun _ _ h => h⟩⟩
    subst er
    cases o with
    | fz t =>
      simp only [RepO] at ro
      simp only [mkBor, RvOk, RepO]
      exact ⟨trivial, ro.2⟩
    | lst xs => exact ⟨rfl, bs, ro⟩
    | tup xs => exact ⟨rfl, bs, ro⟩
    | dic T xs => exact ⟨rfl, bs, ro⟩
    | ins c xs => exact ⟨rfl, bs, ro⟩
  unfold rdVar at e
  cases s : env.at i with
  | un => rw [s] at e; cases e
  | own o =>
    rw [s] at e q
    obtain ⟨v, z, ro⟩ := q
    refine ⟨v, z, fin o v _ (ro.lend fun a h => .inl h) ?_⟩
    simpa using e
  | bor o =>
    rw [s] at e q
    obtain ⟨_, v, bs, z, ro⟩ := q
    refine ⟨v, z, fin o v bs (ro.wide fun a h => .inr h) ?_⟩
    simpa using e
theorem rdVar_env {i : Nat} {env env' : PT.Env} {c : Except Ex RV} (e : rdVar i env = some (c, env')) : ∃ r, c = .ok r ∧ env' = env := by
  unfold rdVar at e
  cases s : env.at i with
  | un => rw [s] at e; cases e
  | own o => rw [s] at e; cases e; exact ⟨_, rfl, rfl⟩
  | bor o => rw [s] at e; cases e; exact ⟨_, rfl, rfl⟩
theorem te_var {i : Nat} {x : Str} {pos : Pos} (hN : X.N[i]? = some x) (hv : Vis X.env.scope x) (hd : (x == ("__debug__" : Str)) = false) (hcd : (x == ("__classdict__" : Str)) = false) : PE X (.Name x pos) (TEv cl xc W C (.var i)) :=
  PE.imp (pe_var hN hv hd hcd) fun σ H Q h => by
    obtain ⟨Bp, env, A, c, env', R, e, k⟩ := h
    obtain ⟨r, rfl, rfl⟩ := rdVar_env e
    obtain ⟨v, z, p⟩ := R.read e
    exact ⟨v, z, k _ _ _ _ p⟩

/-! ### two operands -/
/-- the second one behind the first -/
theorem two {a b : ME} {f : RV → RV → Option RV} {q : Bool} (hq : q = true → quiet a = true ∧ quiet b = true) {σ : St} {H : Hp} {Q : VK} {R2 : V → V → Hp → Prop}
    (h : TM cl xc W q (M.bind (evE C a) fun x => if x.isBor && !quiet b then M.stuck else M.bind (evE C b) fun y => M.lift (f x y)) σ H Q)
    (k : ∀ {Bp : Addr → Prop} {H1 H2 : Hp} {A A1 A2 : List (List Addr)} {r1 r2 r : RV} {env1 env2 : PT.Env} {v1 v2 : V} {as1 as2 : List Addr}, EPost cl Bp H σ A (quiet a) r1 env1 v1 H1 A1 as1 → EPost cl Bp H1 σ A1 (quiet b) r2 env2 v2 H2 A2 as2 → RvOk cl Bp H2 A2 v1 r1 as1 → f r1 r2 = some r →
      (∀ v H' A' as, EPost cl Bp H σ A q r env2 v H' A' as → Q v H') → R2 v1 v2 H2) :
    TEv cl xc W C a σ H fun v1 H1 => TEv cl xc W C b σ H1 fun v2 H2 => R2 v1 v2 H2 := by
  obtain ⟨Bp, env, A, c, env', R, e, kq⟩ := h
  rcases M.bind_some e with ⟨x, e1, h1, h2⟩ | ⟨r1, env1, h1, h2⟩
  · cases h2
    exact ⟨Bp, env, A, _, _, R, h1, kq⟩
  · refine ⟨Bp, env, A, _, _, R, h1, fun v1 H1 A1 as1 p1 => ?_⟩
    cases hb : r1.isBor && !quiet b with
    | true => rw [hb] at h2; simp [M.stuck] at h2
    | false =>
      rw [hb] at h2
      simp only [Bool.false_eq_true, if_false] at h2
      rcases M.bind_some h2 with ⟨x, e2, g1, g2⟩ | ⟨r2, env2, g1, g2⟩
      · cases g2
        exact ⟨Bp, env1, A1, _, _, p1.rel, g1, fun cls d H' A' z => kq cls d H' A' (z.behind p1)⟩
      · refine ⟨Bp, env1, A1, _, _, p1.rel, g1, fun v2 H2 A2 as2 p2 => ?_⟩
        unfold M.lift at g2
        cases er : f r1 r2 with
        | none => rw [er] at g2; simp at g2
        | some r =>
          rw [er] at g2
          simp only [Option.map_some, Option.some.injEq, Prod.mk.injEq] at g2
          obtain ⟨rfl, rfl⟩ := g2
          exact k p1 p2 (p1.held p2 hb) er kq
/-- an operator by trees -/
theorem te_two {a b : ME} {f : PV → PV → Option OV} {q : Bool} (hq : q = true → quiet a = true ∧ quiet b = true) (σ : St) (H : Hp) (Q : VK)
    (h : TM cl xc W q (M.bind (evE C a) fun x => if x.isBor && !quiet b then M.stuck else M.bind (evE C b) fun y => M.lift ((f x.t y.t).map .own)) σ H Q) :
    tOp (rB cl f) (TEv cl xc W C a) (TEv cl xc W C b) σ H Q := by
  refine two (f := fun x y => (f x.t y.t).map .own) hq h fun {Bp H1 H2 A A1 A2 r1 r2 r env1 env2 v1 v2 as1 as2} p1 p2 ho er kq => ?_
  cases eo : f r1.t r2.t with
  | none => rw [eo] at er; cases er
  | some o =>
    rw [eo] at er
    cases er
    refine ⟨_, _, o, ho.rd, p2.rv.rd, eo, fun v H' as n => kq v H' A2 as ?_⟩
    exact p1.then (p2.then (p2.rel.new n) (q := quiet b) fun e => ⟨e, rfl⟩) hq
theorem te_bin {op : BO} {op' : Operator} {ea eb : Expr} {a b : ME} {pos : Pos} (ho : OpR X (binaryOp op') (rB cl (opBin op))) (ha : PE X ea (TEv cl xc W C a)) (hb : PE X eb (TEv cl xc W C b)) : PE X (.BinOp ea op' eb pos) (TEv cl xc W C (.bin op a b)) :=
  PE.imp (pe_op ho ha hb) fun σ H Q h => te_two (f := opBin op) (q := quiet (.bin op a b)) (fun e => by simpa only [quiet, Bool.and_eq_true] using e) σ H Q h
def cmpO (op : CO) (x y : PV) : Option OV := (opCmp op x y).map fun k => .fz (.bl k)
theorem te_cmp {op : CO} {op' : CmpOp} {ea eb : Expr} {a b : ME} {pos : Pos} (ho : OpR X (compareOp op') (rB cl (cmpO op))) (hm : behindInMarks op' eb = false) (ha : PE X ea (TEv cl xc W C a)) (hb : PE X eb (TEv cl xc W C b)) : PE X (.Compare ea [op'] [eb] pos) (TEv cl xc W C (.cmp op a b)) :=
  PE.imp (pe_cmpR ho ha hb hm) fun σ H Q h => te_two (f := cmpO op) (q := quiet (.cmp op a b)) (fun e => by simpa only [quiet, Bool.and_eq_true] using e) σ H Q (by
    have e : ∀ x y : RV, ((opCmp op x.t y.t).map fun k => own (.bl k)) = (cmpO op x.t y.t).map .own := fun x y => by
      unfold cmpO
      cases opCmp op x.t y.t <;> rfl
    simpa only [TEv, evE, ev, pr, quiet, e] using h)
end
end PTS

set_option linter.all false
set_option maxRecDepth 100000
/-! == by trees -/
namespace PTS
open PySem L2 PT
theorem tS_inj {x y : Tx} (h : tS x = tS y) : x = y := by
  unfold tS at h
  injection h with h
  simpa using congrArg Array.toList h
theorem eqv_str (x y : Tx) : eqv (.str x) (.str y) = (tS x == tS y) := by
  simp only [eqv]
  by_cases h : x = y
  · subst h
    simp
  · have n : tS x ≠ tS y := fun z => h (tS_inj z)
    rw [beq_eq_false_iff_ne.mpr h, beq_eq_false_iff_ne.mpr n]

/-- the value of a tree -/
inductive KindV (s : Shared) (us : List Value → List PV → Prop) : Value → PV → Prop
  | non : KindV s us .none .non
  | bl (b : Bool) : KindV s us (.bool b) (.bl b)
  | int (i : Int) (t : Tok) : KindV s us (.int i t) (.int i)
  | str (x : Tx) (t : Tok) : KindV s us (.str (tS x) t) (.str x)
  | lst {a : Addr} {its : List Value} {xs : List PV} : s.heap.IsList a its.toArray → us its xs → KindV s us (.ref a) (.lst xs)
  | tup {a : Addr} {its : List Value} {xs : List PV} : s.heap.IsTuple a its.toArray → us its xs → KindV s us (.ref a) (.tup xs)

theorem eqv_leaf_note : True := trivial
/-- the pairs of unlike kinds, and of scalars -/
theorem eqAt_unlike {s : Shared} {us us' : List Value → List PV → Prop} {u u' : Value} {t t' : PV} (h : KindV s us u t) (h' : KindV s us' u' t') (hn : ∀ xs ys, ¬ (t = .lst xs ∧ t' = .lst ys)) (hm : ∀ xs ys, ¬ (t = .tup xs ∧ t' = .tup ys)) :
    (∀ A : Around, A.units < cLine → SeqAt.EqAt A s u u' (eqv t t')) ∧ (∀ A : Around, A.units < cLine → SeqAt.RcAt A s u u' (eqv t t')) ∧ ∀ A : Around, A.units < cLine → SeqAt.RcNeAt A s u u' (!eqv t t') := by
  cases h with
  | non =>
    cases h' with
    | non => exact ⟨fun A hu => SeqAt.EqAt.same _, fun A hu => SeqAt.RcAt.none_none , fun A hu => SeqAt.RcNeAt.none_none ⟩
    | bl b' => exact ⟨fun A hu => SeqAt.EqAt.none_bool _, fun A hu => SeqAt.RcAt.none_bool _, fun A hu => SeqAt.RcNeAt.none_bool _⟩
    | int i' t' => exact ⟨fun A hu => SeqAt.EqAt.none_int _ _, fun A hu => SeqAt.RcAt.none_int _ _, fun A hu => SeqAt.RcNeAt.none_int _ _⟩
    | str x' t' => exact ⟨fun A hu => SeqAt.EqAt.none_str _ _, fun A hu => SeqAt.RcAt.none_str _ _, fun A hu => SeqAt.RcNeAt.none_str _ _⟩
    | lst h2 q2 => exact ⟨fun A hu => SeqAt.EqAt.none_list  h2 (by omega), fun A hu => SeqAt.RcAt.none_list  h2 (by omega), fun A hu => SeqAt.RcNeAt.none_list  h2 (by omega)⟩
    | tup h2 q2 => exact ⟨fun A hu => SeqAt.EqAt.none_tuple  h2 (by omega), fun A hu => SeqAt.RcAt.none_tuple  h2 (by omega), fun A hu => SeqAt.RcNeAt.none_tuple  h2 (by omega)⟩
  | bl b =>
    cases h' with
    | non => exact ⟨fun A hu => SeqAt.EqAt.bool_none _, fun A hu => SeqAt.RcAt.bool_none _, fun A hu => SeqAt.RcNeAt.bool_none _⟩
    | bl b' => exact ⟨fun A hu => SeqAt.EqAt.bool_bool _ _, fun A hu => SeqAt.RcAt.bool_bool _ _, fun A hu => SeqAt.RcNeAt.bool_bool _ _⟩
    | int i' t' => exact ⟨fun A hu => SeqAt.EqAt.bool_int _ _ _, fun A hu => SeqAt.RcAt.bool_int _ _ _, fun A hu => SeqAt.RcNeAt.bool_int _ _ _⟩
    | str x' t' => exact ⟨fun A hu => SeqAt.EqAt.bool_str _ _ _, fun A hu => SeqAt.RcAt.bool_str _ _ _, fun A hu => SeqAt.RcNeAt.bool_str _ _ _⟩
    | lst h2 q2 => exact ⟨fun A hu => SeqAt.EqAt.bool_list _ h2 (by omega), fun A hu => SeqAt.RcAt.bool_list _ h2 (by omega), fun A hu => SeqAt.RcNeAt.bool_list _ h2 (by omega)⟩
    | tup h2 q2 => exact ⟨fun A hu => SeqAt.EqAt.bool_tuple _ h2 (by omega), fun A hu => SeqAt.RcAt.bool_tuple _ h2 (by omega), fun A hu => SeqAt.RcNeAt.bool_tuple _ h2 (by omega)⟩
  | int i t =>
    cases h' with
    | non => exact ⟨fun A hu => SeqAt.EqAt.int_none _ _, fun A hu => SeqAt.RcAt.int_none _ _, fun A hu => SeqAt.RcNeAt.int_none _ _⟩
    | bl b' => exact ⟨fun A hu => SeqAt.EqAt.int_bool _ _ _, fun A hu => SeqAt.RcAt.int_bool _ _ _, fun A hu => SeqAt.RcNeAt.int_bool _ _ _⟩
    | int i' t' => exact ⟨fun A hu => SeqAt.EqAt.int_int _ _ _ _, fun A hu => SeqAt.RcAt.int_int _ _ _ _, fun A hu => SeqAt.RcNeAt.int_int _ _ _ _⟩
    | str x' t' => exact ⟨fun A hu => SeqAt.EqAt.int_str _ _ _ _, fun A hu => SeqAt.RcAt.int_str _ _ _ _, fun A hu => SeqAt.RcNeAt.int_str _ _ _ _⟩
    | lst h2 q2 => exact ⟨fun A hu => SeqAt.EqAt.int_list _ _ h2 (by omega), fun A hu => SeqAt.RcAt.int_list _ _ h2 (by omega), fun A hu => SeqAt.RcNeAt.int_list _ _ h2 (by omega)⟩
    | tup h2 q2 => exact ⟨fun A hu => SeqAt.EqAt.int_tuple _ _ h2 (by omega), fun A hu => SeqAt.RcAt.int_tuple _ _ h2 (by omega), fun A hu => SeqAt.RcNeAt.int_tuple _ _ h2 (by omega)⟩
  | str x t =>
    cases h' with
    | non => exact ⟨fun A hu => SeqAt.EqAt.str_none _ _, fun A hu => SeqAt.RcAt.str_none _ _, fun A hu => SeqAt.RcNeAt.str_none _ _⟩
    | bl b' => exact ⟨fun A hu => SeqAt.EqAt.str_bool _ _ _, fun A hu => SeqAt.RcAt.str_bool _ _ _, fun A hu => SeqAt.RcNeAt.str_bool _ _ _⟩
    | int i' t' => exact ⟨fun A hu => SeqAt.EqAt.str_int _ _ _ _, fun A hu => SeqAt.RcAt.str_int _ _ _ _, fun A hu => SeqAt.RcNeAt.str_int _ _ _ _⟩
    | str x' t' => rw [show eqv (.str x) (.str x') = (tS x == tS x') from eqv_str x x']; exact ⟨fun A hu => SeqAt.EqAt.str_str _ _ _ _, fun A hu => SeqAt.RcAt.str_str _ _ _ _, fun A hu => SeqAt.RcNeAt.str_str _ _ _ _⟩
    | lst h2 q2 => exact ⟨fun A hu => SeqAt.EqAt.str_list _ _ h2 (by omega), fun A hu => SeqAt.RcAt.str_list _ _ h2 (by omega), fun A hu => SeqAt.RcNeAt.str_list _ _ h2 (by omega)⟩
    | tup h2 q2 => exact ⟨fun A hu => SeqAt.EqAt.str_tuple _ _ h2 (by omega), fun A hu => SeqAt.RcAt.str_tuple _ _ h2 (by omega), fun A hu => SeqAt.RcNeAt.str_tuple _ _ h2 (by omega)⟩
  | lst h1 q1 =>
    cases h' with
    | non => exact ⟨fun A hu => SeqAt.EqAt.list_none  h1 (by omega), fun A hu => SeqAt.RcAt.list_none  h1 (by omega), fun A hu => SeqAt.RcNeAt.list_none  h1 (by omega)⟩
    | bl b' => exact ⟨fun A hu => SeqAt.EqAt.list_bool _ h1 (by omega), fun A hu => SeqAt.RcAt.list_bool _ h1 (by omega), fun A hu => SeqAt.RcNeAt.list_bool _ h1 (by omega)⟩
    | int i' t' => exact ⟨fun A hu => SeqAt.EqAt.list_int _ _ h1 (by omega), fun A hu => SeqAt.RcAt.list_int _ _ h1 (by omega), fun A hu => SeqAt.RcNeAt.list_int _ _ h1 (by omega)⟩
    | str x' t' => exact ⟨fun A hu => SeqAt.EqAt.list_str _ _ h1 (by omega), fun A hu => SeqAt.RcAt.list_str _ _ h1 (by omega), fun A hu => SeqAt.RcNeAt.list_str _ _ h1 (by omega)⟩
    | lst h2 q2 => exact absurd ⟨rfl, rfl⟩ (hn _ _)
    | tup h2 q2 => exact ⟨fun A hu => SeqAt.EqAt.list_tuple h1 h2 (by omega), fun A hu => SeqAt.RcAt.list_tuple h1 h2 (by omega), fun A hu => SeqAt.RcNeAt.list_tuple h1 h2 (by omega)⟩
  | tup h1 q1 =>
    cases h' with
    | non => exact ⟨fun A hu => SeqAt.EqAt.tuple_none  h1 (by omega), fun A hu => SeqAt.RcAt.tuple_none  h1 (by omega), fun A hu => SeqAt.RcNeAt.tuple_none  h1 (by omega)⟩
    | bl b' => exact ⟨fun A hu => SeqAt.EqAt.tuple_bool _ h1 (by omega), fun A hu => SeqAt.RcAt.tuple_bool _ h1 (by omega), fun A hu => SeqAt.RcNeAt.tuple_bool _ h1 (by omega)⟩
    | int i' t' => exact ⟨fun A hu => SeqAt.EqAt.tuple_int _ _ h1 (by omega), fun A hu => SeqAt.RcAt.tuple_int _ _ h1 (by omega), fun A hu => SeqAt.RcNeAt.tuple_int _ _ h1 (by omega)⟩
    | str x' t' => exact ⟨fun A hu => SeqAt.EqAt.tuple_str _ _ h1 (by omega), fun A hu => SeqAt.RcAt.tuple_str _ _ h1 (by omega), fun A hu => SeqAt.RcNeAt.tuple_str _ _ h1 (by omega)⟩
    | lst h2 q2 => exact ⟨fun A hu => SeqAt.EqAt.tuple_list h1 h2 (by omega), fun A hu => SeqAt.RcAt.tuple_list h1 h2 (by omega), fun A hu => SeqAt.RcNeAt.tuple_list h1 h2 (by omega)⟩
    | tup h2 q2 => exact absurd ⟨rfl, rfl⟩ (hm _ _)

section
variable {cl : Clt} {X : Cx} {pins : List (Addr × Obj)} {σ : St} {H : Hp} {s : Shared}
def SeqR (cl : Clt) (H : Hp) (its : List Value) (xs : List PV) : Prop := ∃ vs, Vals vs its ∧ RdTs cl H vs xs
theorem RdT.kind (I : Inv X pins σ H s) {v : V} {u : Value} {t : PV} (h : RdT cl H v t) (r : RelV v u) (n : Nat) (k : eqOk n t = true) : KindV s (SeqR cl H) u t := by
  cases t with
  | non => simp only [RdT] at h; subst h; cases r; exact .non
  | bl b => simp only [RdT] at h; subst h; cases r; exact .bl b
  | int i => simp only [RdT] at h; subst h; obtain ⟨t, rfl⟩ := r; exact .int i t
  | str x => simp only [RdT] at h; subst h; obtain ⟨t, rfl⟩ := r; exact .str x t
  | lst xs =>
    simp only [RdT] at h
    obtain ⟨a, vs, rfl, hr, hx⟩ := h
    cases r
    obtain ⟨its, rv, p, _⟩ := I.list (show SqL X.K H a vs from .inl hr)
    exact .lst p.isList ⟨vs, rv, hx⟩
  | tup xs =>
    simp only [RdT] at h
    obtain ⟨a, vs, rfl, hr, hx⟩ := h
    cases r
    obtain ⟨its, rv, p, _⟩ := I.tuple (SqT.of (K := X.K) hr)
    exact .tup p ⟨vs, rv, hx⟩
  | dic kvs => cases n <;> simp [eqOk] at k
  | ins c fs => cases n <;> simp [eqOk] at k
theorem Rd.lst_inj {a : Addr} {vs ws : List V} (h : Rd H a (.lst vs)) (h' : Rd H a (.lst ws)) : vs = ws := by
  rcases h with h | ⟨o, h⟩ <;> rcases h' with h' | ⟨o', h'⟩ <;> rw [h] at h' <;> cases h' <;> rfl
mutual
theorem RdT.inj : ∀ (n : Nat) (t t' : PV) (v : V), RdT cl H v t → RdT cl H v t' → eqOk n t = true → eqOk n t' = true → eqv t t' = true
  | n, t, t', v, h, h', k, k' => by
    cases t with
    | non => simp only [RdT] at h; subst h; cases t' <;> simp [RdT, eqv] at h' ⊢ <;> (cases n <;> simp [eqOk] at k')
    | bl b => simp only [RdT] at h; subst h; cases t' <;> simp [RdT, eqv] at h' ⊢ <;> first | exact h' | (cases n <;> simp [eqOk] at k')
    | int b => simp only [RdT] at h; subst h; cases t' <;> simp [RdT, eqv] at h' ⊢ <;> first | exact h' | (cases n <;> simp [eqOk] at k')
    | str b =>
      simp only [RdT] at h
      subst h
      cases t' with
      | str y =>
        simp only [RdT, V.str.injEq] at h'
        rw [tS_inj h']
        simp [eqv]
      | _ => simp [RdT] at h'
    | lst xs =>
      simp only [RdT] at h
      obtain ⟨a, vs, rfl, hr, hx⟩ := h
      cases t' with
      | lst ys =>
        simp only [RdT] at h'
        obtain ⟨a', ws, e, hr', hy⟩ := h'
        cases e
        have e := Rd.lst_inj hr hr'
        subst e
        cases n with
        | zero => simp [eqOk] at k
        | succ n =>
          simp only [eqOk] at k k'
          simp only [eqv]
          exact RdTs.inj n xs ys vs hx hy k k'
      | tup ys =>
        simp only [RdT] at h'
        obtain ⟨a', ws, e, hr', hy⟩ := h'
        cases e
        rcases hr with hr | ⟨o, hr⟩ <;> rw [hr] at hr' <;> cases hr'
      | dic _ => cases n <;> simp [eqOk] at k'
      | ins _ _ => cases n <;> simp [eqOk] at k'
      | _ => simp [RdT] at h'
    | tup xs =>
      simp only [RdT] at h
      obtain ⟨a, vs, rfl, hr, hx⟩ := h
      cases t' with
      | tup ys =>
        simp only [RdT] at h'
        obtain ⟨a', ws, e, hr', hy⟩ := h'
        cases e
        rw [hr] at hr'
        cases hr'
        cases n with
        | zero => simp [eqOk] at k
        | succ n =>
          simp only [eqOk] at k k'
          simp only [eqv]
          exact RdTs.inj n xs ys vs hx hy k k'
      | lst ys =>
        simp only [RdT] at h'
        obtain ⟨a', ws, e, hr', hy⟩ := h'
        cases e
        rcases hr' with hr' | ⟨o, hr'⟩ <;> rw [hr] at hr' <;> cases hr'
      | dic _ => cases n <;> simp [eqOk] at k'
      | ins _ _ => cases n <;> simp [eqOk] at k'
      | _ => simp [RdT] at h'
    | dic kvs => cases n <;> simp [eqOk] at k
    | ins c fs => cases n <;> simp [eqOk] at k
termination_by n => (n, 0)
theorem RdTs.inj : ∀ (n : Nat) (xs ys : List PV) (vs : List V), RdTs cl H vs xs → RdTs cl H vs ys → eqOks n xs = true → eqOks n ys = true → eqvs xs ys = true
  | n, [], ys, vs, h, h', k, k' => by
    cases vs with
    | nil =>
      cases ys with
      | nil => simp [eqvs]
      | cons y ys => simp [RdTs] at h'
    | cons v vs => simp [RdTs] at h
  | n, x :: xs, ys, vs, h, h', k, k' => by
    cases vs with
    | nil => simp [RdTs] at h
    | cons v vs =>
      cases ys with
      | nil => simp [RdTs] at h'
      | cons y ys =>
        simp only [RdTs] at h h'
        simp only [eqOks, Bool.and_eq_true] at k k'
        simp only [eqvs, Bool.and_eq_true]
        exact ⟨RdT.inj n x y v h.1 h'.1 k.1 k'.1, RdTs.inj n xs ys vs h.2 h'.2 k.2 k'.2⟩
termination_by n xs => (n, xs.length + 1)
end
/-- the j-th pair -/
def pairE (xs ys : List PV) (j : Nat) : Bool := match xs[j]?, ys[j]? with | some x, some y => eqv x y | _, _ => true
theorem eqvs_range : ∀ (xs ys : List PV), xs.length = ys.length → eqvs xs ys = (List.range xs.length).all (pairE xs ys)
  | [], [], _ => by simp [eqvs]
  | x :: xs, y :: ys, h => by
    have h' : xs.length = ys.length := by simpa using h
    simp only [eqvs, List.length_cons, List.range_succ_eq_map, List.all_cons, List.all_map, eqvs_range xs ys h']
    rfl
  | [], _ :: _, h => by simp at h
  | _ :: _, [], h => by simp at h
theorem eqvs_len : ∀ (xs ys : List PV), xs.length ≠ ys.length → eqvs xs ys = false
  | [], [], h => absurd rfl h
  | x :: xs, y :: ys, h => by
    have h' : xs.length ≠ ys.length := by simpa using h
    simp [eqvs, eqvs_len xs ys h']
  | [], _ :: _, _ => by simp [eqvs]
  | _ :: _, [], _ => by simp [eqvs]
theorem SeqR.len {its : List Value} {xs : List PV} (h : SeqR cl H its xs) : its.length = xs.length := by
  obtain ⟨vs, r, h⟩ := h
  rw [← r.length]
  have : ∀ (vs : List V) (xs : List PV), RdTs cl H vs xs → vs.length = xs.length := fun vs => by
    induction vs with
    | nil => intro xs h; cases xs with
      | nil => rfl
      | cons x xs => simp [RdTs] at h
    | cons v vs ih => intro xs h; cases xs with
      | nil => simp [RdTs] at h
      | cons x xs => simp only [RdTs] at h; simp [ih xs h.2]
  exact this vs xs h
theorem SeqR.at {its : List Value} {xs : List PV} (h : SeqR cl H its xs) {j : Nat} {u : Value} (e : its[j]? = some u) : ∃ v x, xs[j]? = some x ∧ RdT cl H v x ∧ RelV v u := by
  obtain ⟨vs, r, h⟩ := h
  induction r generalizing xs j with
  | nil => simp at e
  | cons rv rr ih =>
    cases xs with
    | nil => simp [RdTs] at h
    | cons x xs =>
      simp only [RdTs] at h
      cases j with
      | zero =>
        simp only [List.getElem?_cons_zero, Option.some.injEq] at e
        subst e
        exact ⟨_, x, rfl, h.1, rv⟩
      | succ j =>
        simp only [List.getElem?_cons_succ] at e ⊢
        exact ih e h.2
theorem eqOks_at : ∀ {n : Nat} {xs : List PV} {j : Nat} {x : PV}, eqOks n xs = true → xs[j]? = some x → eqOk n x = true
  | n, y :: xs, 0, x, h, e => by
    simp only [List.getElem?_cons_zero, Option.some.injEq] at e
    simp only [eqOks, Bool.and_eq_true] at h
    rw [← e]; exact h.1
  | n, y :: xs, j + 1, x, h, e => by
    simp only [List.getElem?_cons_succ] at e
    simp only [eqOks, Bool.and_eq_true] at h
    exact eqOks_at h.2 e
theorem eqTree (I : Inv X pins σ H s) : ∀ (n : Nat) (t t' : PV) (v v' : V) (u u' : Value), RdT cl H v t → RdT cl H v' t' → RelV v u → RelV v' u' → eqOk n t = true → eqOk n t' = true → ∀ A : Around, A.units + n < cLine → SeqAt.EqAt A s u u' (eqv t t') := by
  intro n
  induction n with
  | zero =>
    intro t t' v v' u u' h h' r r' k k' A hu
    refine (eqAt_unlike (h.kind I r 0 k) (h'.kind I r' 0 k') (fun xs ys z => ?_) fun xs ys z => ?_).1 A (by omega)
    · rw [z.1] at k; simp [eqOk] at k
    · rw [z.1] at k; simp [eqOk] at k
  | succ n ih =>
    intro t t' v v' u u' h h' r r' k k' A hu
    have K := h.kind I r _ k
    have K' := h'.kind I r' _ k'
    by_cases hl : ∃ xs ys, t = .lst xs ∧ t' = .lst ys
    · obtain ⟨xs, ys, rfl, rfl⟩ := hl
      cases K with
      | @lst a its _ h1 q1 =>
        cases K' with
        | @lst b its' _ h2 q2 =>
          by_cases hab : a = b
          · subst hab
            have e : v = v' := by
              simp only [RdT] at h h'
              obtain ⟨a1, _, rfl, _⟩ := h
              obtain ⟨a2, _, rfl, _⟩ := h'
              cases r
              cases r'
              rfl
            subst e
            rw [RdT.inj (n + 1) _ _ v h h' k k']
            exact .same _
          · simp only [eqv]
            simp only [eqOk] at k k'
            have e1 := q1.len
            have e2 := q2.len
            by_cases hz : xs.length = ys.length
            · rw [eqvs_range xs ys hz, show xs.length = its.toArray.size by simp; omega]
              refine SeqAt.EqAt.of_refs hab (SeqAt.RcAt.lists (e := pairE xs ys) h1 h2 (by simp; omega) (by omega) fun j j1 j2 => ?_)
              obtain ⟨va, x, ex, hx, rx⟩ := q1.at (j := j) (u := its.toArray[j]) (by simp at j1; simp [j1])
              obtain ⟨vb, y, ey, hy, ry⟩ := q2.at (j := j) (u := its'.toArray[j]) (by simp at j2; simp [j2])
              have z : pairE xs ys j = eqv x y := by unfold pairE; rw [ex, ey]
              rw [z]
              exact ih x y va vb _ _ hx hy rx ry (eqOks_at k ex) (eqOks_at k' ey) A.in1 (by show A.units + 1 + n < cLine; omega)
            · rw [eqvs_len xs ys hz]
              exact SeqAt.EqAt.of_refs hab (SeqAt.RcAt.lists_lengths h1 h2 (by simp; omega) (by omega))
    · by_cases hm : ∃ xs ys, t = .tup xs ∧ t' = .tup ys
      · obtain ⟨xs, ys, rfl, rfl⟩ := hm
        cases K with
        | @tup a its _ h1 q1 =>
          cases K' with
          | @tup b its' _ h2 q2 =>
            by_cases hab : a = b
            · subst hab
              have e : v = v' := by
                simp only [RdT] at h h'
                obtain ⟨a1, _, rfl, _⟩ := h
                obtain ⟨a2, _, rfl, _⟩ := h'
                cases r
                cases r'
                rfl
              subst e
              rw [RdT.inj (n + 1) _ _ v h h' k k']
              exact .same _
            · simp only [eqv]
              simp only [eqOk] at k k'
              have e1 := q1.len
              have e2 := q2.len
              have t := SeqAt.RcAt.tuples (A := A) (e := pairE xs ys) h1 h2 (by omega) fun j j1 j2 => by
                obtain ⟨va, x, ex, hx, rx⟩ := q1.at (j := j) (u := its.toArray[j]) (by simp at j1; simp [j1])
                obtain ⟨vb, y, ey, hy, ry⟩ := q2.at (j := j) (u := its'.toArray[j]) (by simp at j2; simp [j2])
                have z : pairE xs ys j = eqv x y := by unfold pairE; rw [ex, ey]
                rw [z]
                exact ih x y va vb _ _ hx hy rx ry (eqOks_at k ex) (eqOks_at k' ey) A.in1 (by show A.units + 1 + n < cLine; omega)
              refine SeqAt.EqAt.of_refs hab ?_
              have z : its.toArray.size = xs.length := by simp; omega
              have z' : its'.toArray.size = ys.length := by simp; omega
              rw [z, z'] at t
              by_cases hz : xs.length = ys.length
              · rw [eqvs_range xs ys hz]
                have w : (min xs.length ys.length) = xs.length := by omega
                rw [w] at t
                simpa [hz] using t
              · rw [eqvs_len xs ys hz]
                have w : (xs.length == ys.length) = false := by simpa using hz
                rw [w, Bool.and_false] at t
                exact t
      · exact (eqAt_unlike K K' (fun xs ys z => hl ⟨xs, ys, z⟩) fun xs ys z => hm ⟨xs, ys, z⟩).1 A (by omega)
/-- a == b, a != b, at the top -/
theorem rcTree (I : Inv X pins σ H s) {n : Nat} {t t' : PV} {v v' : V} {u u' : Value} {A : Around} (h : RdT cl H v t) (h' : RdT cl H v' t') (r : RelV v u) (r' : RelV v' u') (k : eqOk n t = true) (k' : eqOk n t' = true) (hu : A.units + n + 1 < cLine) :
    SeqAt.RcAt A s u u' (eqv t t') ∧ SeqAt.RcNeAt A s u u' (!eqv t t') := by
  have K := h.kind I r _ k
  have K' := h'.kind I r' _ k'
  by_cases hl : ∃ xs ys, t = .lst xs ∧ t' = .lst ys
  · obtain ⟨xs, ys, rfl, rfl⟩ := hl
    cases n with
    | zero => simp [eqOk] at k
    | succ n =>
    cases K with
    | @lst a its _ h1 q1 =>
      cases K' with
      | @lst b its' _ h2 q2 =>
        simp only [eqOk] at k k'
        simp only [eqv]
        have e1 := q1.len
        have e2 := q2.len
        by_cases hz : xs.length = ys.length
        · have he : ∀ j (j1 : j < its.toArray.size) (j2 : j < its'.toArray.size), SeqAt.EqAt A.in1 s its.toArray[j] its'.toArray[j] (pairE xs ys j) := fun j j1 j2 => by
            obtain ⟨va, x, ex, hx, rx⟩ := q1.at (j := j) (u := its.toArray[j]) (by simp at j1; simp [j1])
            obtain ⟨vb, y, ey, hy, ry⟩ := q2.at (j := j) (u := its'.toArray[j]) (by simp at j2; simp [j2])
            have z : pairE xs ys j = eqv x y := by unfold pairE; rw [ex, ey]
            rw [z]
            exact eqTree I n x y va vb _ _ hx hy rx ry (eqOks_at k ex) (eqOks_at k' ey) A.in1 (by show A.units + 1 + n < cLine; omega)
          rw [eqvs_range xs ys hz, show xs.length = its.toArray.size by simp; omega]
          exact ⟨SeqAt.RcAt.lists h1 h2 (by simp; omega) (by omega) he, SeqAt.RcNeAt.lists h1 h2 (by simp; omega) (by omega) he⟩
        · rw [eqvs_len xs ys hz]
          exact ⟨SeqAt.RcAt.lists_lengths h1 h2 (by simp; omega) (by omega), SeqAt.RcNeAt.lists_lengths h1 h2 (by simp; omega) (by omega)⟩
  · by_cases hm : ∃ xs ys, t = .tup xs ∧ t' = .tup ys
    · obtain ⟨xs, ys, rfl, rfl⟩ := hm
      cases n with
      | zero => simp [eqOk] at k
      | succ n =>
      cases K with
      | @tup a its _ h1 q1 =>
        cases K' with
        | @tup b its' _ h2 q2 =>
          simp only [eqOk] at k k'
          have e1 := q1.len
          have e2 := q2.len
          have he : ∀ j (j1 : j < its.toArray.size) (j2 : j < its'.toArray.size), SeqAt.EqAt A.in1 s its.toArray[j] its'.toArray[j] (pairE xs ys j) := fun j j1 j2 => by
            obtain ⟨va, x, ex, hx, rx⟩ := q1.at (j := j) (u := its.toArray[j]) (by simp at j1; simp [j1])
            obtain ⟨vb, y, ey, hy, ry⟩ := q2.at (j := j) (u := its'.toArray[j]) (by simp at j2; simp [j2])
            have z : pairE xs ys j = eqv x y := by unfold pairE; rw [ex, ey]
            rw [z]
            exact eqTree I n x y va vb _ _ hx hy rx ry (eqOks_at k ex) (eqOks_at k' ey) A.in1 (by show A.units + 1 + n < cLine; omega)
          have w : eqv (.tup xs) (.tup ys) = ((List.range (min its.toArray.size its'.toArray.size)).all (pairE xs ys) && its.toArray.size == its'.toArray.size) := by
            have z : its.toArray.size = xs.length := by simp; omega
            have z' : its'.toArray.size = ys.length := by simp; omega
            rw [z, z']
            simp only [eqv]
            by_cases hz : xs.length = ys.length
            · rw [eqvs_range xs ys hz, show min xs.length ys.length = xs.length by omega]
              simp [hz]
            · rw [eqvs_len xs ys hz, show (xs.length == ys.length) = false by simpa using hz, Bool.and_false]
          rw [w]
          exact ⟨SeqAt.RcAt.tuples h1 h2 (by omega) he, SeqAt.RcNeAt.tuples h1 h2 (by omega) he⟩
    · exact ⟨(eqAt_unlike K K' (fun xs ys z => hl ⟨xs, ys, z⟩) fun xs ys z => hm ⟨xs, ys, z⟩).2.1 A (by omega), (eqAt_unlike K K' (fun xs ys z => hl ⟨xs, ys, z⟩) fun xs ys z => hm ⟨xs, ys, z⟩).2.2 A (by omega)⟩
end
end PTS

set_option linter.all false
set_option maxRecDepth 100000
/-! the operators by trees -/
namespace PTS
open PySem L2 PT
theorem tS_app (x y : Tx) : tS x ++ tS y = tS (x ++ y) := by
  show (⟨x.toArray ++ y.toArray⟩ : Str) = ⟨(x ++ y).toArray⟩
  simp
theorem tS_len (x : Tx) : (tS x).length = x.length := by
  show x.toArray.size = x.length
  simp
theorem tS_list (x : Tx) : (tS x).cps.toList = x := by simp [tS]
theorem line_eq : (PT.line : Nat) = sizeLine := by rw [sizeLine_eq]; rfl
theorem txLt_eq : ∀ x y : Tx, txLt x y = decide (x < y)
  | [], [] => by simp [txLt]
  | [], _ :: _ => by simp [txLt]
  | _ :: _, [] => by simp [txLt]
  | a :: x, b :: y => by
    have ih := txLt_eq x y
    simp only [txLt]
    by_cases h1 : a < b
    · rw [if_pos h1]
      symm
      exact decide_eq_true (List.cons_lt_cons_iff.mpr (.inl h1))
    · rw [if_neg h1]
      by_cases h2 : b < a
      · rw [if_pos h2]
        symm
        refine decide_eq_false fun z => ?_
        rcases List.cons_lt_cons_iff.mp z with z | ⟨z, _⟩ <;> omega
      · rw [if_neg h2, ih]
        have e : a = b := by omega
        subst e
        by_cases h3 : x < y
        · rw [decide_eq_true h3]
          exact (decide_eq_true (List.cons_lt_cons_iff.mpr (.inr ⟨rfl, h3⟩))).symm
        · rw [decide_eq_false h3]
          refine (decide_eq_false fun z => ?_).symm
          rcases List.cons_lt_cons_iff.mp z with z | ⟨_, z⟩
          · omega
          · exact h3 z
def boP : BO → Operator
  | .add => .Add
  | .sub => .Sub
  | .mul => .Mult
  | .fdiv => .FloorDiv
  | .mod => .Mod
  | .pow => .Pow
def coP : CO → CmpOp
  | .eq => .Eq
  | .ne => .NotEq
  | .lt => .Lt
  | .le => .LtE
  | .gt => .Gt
  | .ge => .GtE
  | .isin => .In
  | .notin => .NotIn
  | .isnon => .Is
  | .notnon => .IsNot
section
variable {cl : Clt} {X : Cx}
theorem rd_int {H : Hp} {v : V} {i : Int} (h : RdT cl H v (.int i)) : v = .int i := by simpa only [RdT] using h
theorem rd_str {H : Hp} {v : V} {x : Tx} (h : RdT cl H v (.str x)) : v = .str (tS x) := by simpa only [RdT] using h
theorem rd_bl {H : Hp} {v : V} {b : Bool} (h : RdT cl H v (.bl b)) : v = .bl b := by simpa only [RdT] using h
theorem rd_non {H : Hp} {v : V} (h : RdT cl H v .non) : v = .non := by simpa only [RdT] using h
theorem al_int {H : Hp} {i : Int} : Alloc cl H (.int i) (.fz (.int i)) H [] := .fz (by simp only [RepF])
theorem al_str {H : Hp} {x : Tx} : Alloc cl H (.str (tS x)) (.fz (.str x)) H [] := .fz (by simp only [RepF])
theorem al_bl {H : Hp} {b : Bool} : Alloc cl H (.bl b) (.fz (.bl b)) H [] := .fz (by simp only [RepF])
theorem al_non {H : Hp} : Alloc cl H .non (.fz .non) H [] := .fz (by simp only [RepF])

theorem rd_isnon {H : Hp} {x : V} {t : PV} (h1 : RdT cl H x t) : t.isNon = decide (x = .non) := by
  cases t
  · simp [rd_non h1, PV.isNon]
  · simp [rd_bl h1, PV.isNon]
  · simp [rd_int h1, PV.isNon]
  · simp [rd_str h1, PV.isNon]
  all_goals
    simp only [RdT] at h1
    obtain ⟨a, h1⟩ := h1
    first
      | (obtain ⟨_, rfl, _⟩ := h1; simp [PV.isNon])
      | (obtain ⟨rfl, _⟩ := h1; simp [PV.isNon])
      | (obtain ⟨_, _, _, rfl, _⟩ := h1; simp [PV.isNon])
theorem op_bin (op : BO) : OpR X (binaryOp (boP op)) (rB cl (opBin op)) := by
  intro pins s σ H x y v u Q I rx ry h
  obtain ⟨t, t', o, h1, h2, e, k⟩ := h
  cases op <;> cases t <;> cases t' <;> simp only [opBin] at e <;> first | cases e | skip
  · exact op_add pins s σ H x y v u Q I rx ry ⟨_, _, rd_int h1, rd_int h2, k _ _ _ al_int⟩
  · split at e
    · rename_i hl
      cases e
      refine op_add_str pins s σ H x y v u Q I rx ry ⟨_, _, rd_str h1, rd_str h2, ?_, ?_⟩
      · rw [tS_len, tS_len, ← line_eq]; exact hl
      · rw [tS_app]; exact k _ _ _ al_str
    · cases e
  · exact op_sub pins s σ H x y v u Q I rx ry ⟨_, _, rd_int h1, rd_int h2, k _ _ _ al_int⟩
  · split at e
    · rename_i hl
      cases e
      refine op_mul pins s σ H x y v u Q I rx ry ⟨_, _, rd_int h1, rd_int h2, ?_, k _ _ _ al_int⟩
      simpa [mulOk, CMul] using hl
    · cases e
  · split at e
    · rename_i hl
      cases e
      exact op_fdivN pins s σ H x y v u Q I rx ry ⟨_, _, rd_int h1, rd_int h2, hl, k _ _ _ al_int⟩
    · cases e
  · split at e
    · rename_i hl
      cases e
      exact op_modN pins s σ H x y v u Q I rx ry ⟨_, _, rd_int h1, rd_int h2, hl, k _ _ _ al_int⟩
    · cases e
  · split at e
    · rename_i hl
      cases e
      exact op_pow pins s σ H x y v u Q I rx ry ⟨_, _, rd_int h1, rd_int h2, hl, k _ _ _ al_int⟩
    · cases e
theorem op_cmp (hu : X.A.units + 64 < cLine) (op : CO) : OpR X (compareOp (coP op)) (rB cl (cmpO op)) := by
  intro pins s σ H x y v u Q I rx ry h
  obtain ⟨t, t', o, h1, h2, e, k⟩ := h
  have kb : ∀ b, opCmp op t t' = some b → Q (.bl b) H := fun b eb => by
    unfold cmpO at e
    rw [eb] at e
    cases e
    exact k _ _ _ al_bl
  have some_ : ∃ b, opCmp op t t' = some b := by
    unfold cmpO at e
    cases q : opCmp op t t' with
    | none => rw [q] at e; cases e
    | some b => exact ⟨b, rfl⟩
  obtain ⟨b, eb⟩ := some_
  have q := kb b eb
  cases op with
  | eq =>
    simp only [opCmp] at eb
    split at eb
    · rename_i hk
      cases eb
      simp only [Bool.and_eq_true] at hk
      exact (rcTree I h1 h2 rx ry hk.1 hk.2 (A := X.A) (by omega)).1 _ _ _ _ ⟨.bl _, H, I, rfl, q⟩
    · cases eb
  | ne =>
    simp only [opCmp] at eb
    split at eb
    · rename_i hk
      cases eb
      simp only [Bool.and_eq_true] at hk
      exact (rcTree I h1 h2 rx ry hk.1 hk.2 (A := X.A) (by omega)).2 _ _ _ _ ⟨.bl _, H, I, rfl, q⟩
    · cases eb
  | lt =>
    cases t <;> cases t' <;> simp only [opCmp] at eb <;> first | cases eb | skip
    · exact op_lt pins s σ H x y v u Q I rx ry ⟨_, _, rd_int h1, rd_int h2, q⟩
    · refine op_lt_str pins s σ H x y v u Q I rx ry ⟨_, _, rd_str h1, rd_str h2, ?_⟩
      rw [tS_list, tS_list, ← txLt_eq]
      exact q
  | le =>
    cases t <;> cases t' <;> simp only [opCmp] at eb <;> first | cases eb | skip
    exact op_le pins s σ H x y v u Q I rx ry ⟨_, _, rd_int h1, rd_int h2, q⟩
  | gt =>
    cases t <;> cases t' <;> simp only [opCmp] at eb <;> first | cases eb | skip
    exact op_gt pins s σ H x y v u Q I rx ry ⟨_, _, rd_int h1, rd_int h2, q⟩
  | ge =>
    cases t <;> cases t' <;> simp only [opCmp] at eb <;> first | cases eb | skip
    exact op_ge pins s σ H x y v u Q I rx ry ⟨_, _, rd_int h1, rd_int h2, q⟩
  | isin =>
    cases t <;> cases t' <;> simp only [opCmp] at eb <;> first | cases eb | skip
    rename_i a c
    match a, eb with
    | [z], eb =>
      simp only [isInTx, Option.some.injEq] at eb
      subst eb
      refine op_in_sign pins s σ H x y v u Q I rx ry ⟨z, tS c, rd_str h1, rd_str h2, ?_⟩
      rw [tS_list]
      exact q
    | [], eb => simp [isInTx] at eb
    | _ :: _ :: _, eb => simp [isInTx] at eb
  | notin =>
    cases t <;> cases t' <;> simp only [opCmp] at eb <;> first | cases eb | skip
    rename_i a c
    match a, eb with
    | [z], eb =>
      simp only [isInTx, Option.map_some, Option.some.injEq] at eb
      subst eb
      refine op_notIn_sign pins s σ H x y v u Q I rx ry ⟨z, tS c, rd_str h1, rd_str h2, ?_⟩
      rw [tS_list]
      exact q
    | [], eb => simp [isInTx] at eb
    | _ :: _ :: _, eb => simp [isInTx] at eb
  | isnon =>
    cases t' <;> simp only [opCmp] at eb <;> first | cases eb | skip
    rw [rd_isnon h1] at q
    exact op_isN pins s σ H x y v u Q I rx ry ⟨rd_non h2, q⟩
  | notnon =>
    cases t' <;> simp only [opCmp] at eb <;> first | cases eb | skip
    rw [rd_isnon h1] at q
    exact op_notN pins s σ H x y v u Q I rx ry ⟨rd_non h2, q⟩
end
end PTS

set_option linter.all false
set_option maxRecDepth 100000
/-! moving, freezing, lists of values, displays -/
namespace PTS
open PySem L2 PT

/-! ### lists of addresses -/
theorem perm_set : ∀ (A : List (List Addr)) (i : Nat) (as : List Addr), i < A.length → (A.set i as).flatten.Perm (as ++ (A.set i []).flatten)
  | [], i, as, h => absurd h (Nat.not_lt_zero _)
  | b :: A, 0, as, _ => by simp
  | b :: A, i + 1, as, h => by
    have ih := perm_set A i as (by simpa using h)
    simp only [List.set_cons_succ, List.flatten_cons]
    refine (List.Perm.append_left b ih).trans ?_
    rw [← List.append_assoc, ← List.append_assoc]
    exact List.Perm.append_right _ List.perm_append_comm
theorem set_getD {α : Type} (A : List (List α)) (i : Nat) : A.set i (A.getD i []) = A := by
  rw [List.getD_eq_getElem?_getD]
  by_cases h : i < A.length
  · rw [List.getElem?_eq_getElem h]
    simp
  · rw [List.set_eq_of_length_le (by omega)]
theorem getD_big {A : List (List Addr)} {i : Nat} (h : ¬ i < A.length) : A.getD i [] = [] := by
  rw [List.getD_eq_getElem?_getD, List.getElem?_eq_none (by omega)]
  rfl
/-- slot i's own, and the rest -/
theorem perm_out (A : List (List Addr)) (i : Nat) : A.flatten.Perm (A.getD i [] ++ (A.set i []).flatten) := by
  by_cases h : i < A.length
  · have q := perm_set A i (A.getD i []) h
    rw [set_getD] at q
    exact q
  · rw [getD_big h, List.set_eq_of_length_le (by omega)]
    exact List.Perm.refl _
theorem set_sub (A : List (List Addr)) (i : Nat) : ∀ a ∈ (A.set i []).flatten, a ∈ A.flatten := fun a h => (perm_out A i).mem_iff.mpr (List.mem_append_right _ h)
theorem nodup_out {A : List (List Addr)} (i : Nat) (h : A.flatten.Nodup) : (A.getD i [] ++ (A.set i []).flatten).Nodup := (perm_out A i).nodup_iff.mp h
theorem nodup_set {A : List (List Addr)} {i : Nat} {as : List Addr} (h : (as ++ A.flatten).Nodup) : (A.set i as).flatten.Nodup := by
  by_cases hi : i < A.length
  · refine (perm_set A i as hi).nodup_iff.mpr ?_
    obtain ⟨h1, h2, h3⟩ := List.nodup_append.mp h
    exact List.nodup_append.mpr ⟨h1, (List.nodup_append.mp (nodup_out i h2)).2.1, fun a ha b hb => h3 a ha b (set_sub A i b hb)⟩
  · rw [List.set_eq_of_length_le (by omega)]
    exact (List.nodup_append.mp h).2.1
theorem mem_set {A : List (List Addr)} {i : Nat} {as : List Addr} {a : Addr} (h : a ∈ (A.set i as).flatten) : a ∈ as ∨ a ∈ (A.set i []).flatten := by
  by_cases hi : i < A.length
  · exact List.mem_append.mp ((perm_set A i as hi).mem_iff.mp h)
  · rw [List.set_eq_of_length_le (by omega)] at h
    rw [List.set_eq_of_length_le (by omega)]
    exact .inr h
theorem at_set (env : PT.Env) (i j : Nat) (s : SV) : PT.Env.at (env.set i s) j = if i = j ∧ i < env.length then s else env.at j := by
  unfold PT.Env.at
  rw [List.getD_eq_getElem?_getD, List.getD_eq_getElem?_getD, List.getElem?_set]
  by_cases h : i = j
  · subst h
    by_cases hl : i < env.length
    · simp [hl]
    · simp [hl, List.getElem?_eq_none (by omega : env.length ≤ i)]
  · simp [h]
theorem getD_set (A : List (List Addr)) (i j : Nat) (as : List Addr) : (A.set i as).getD j [] = if i = j ∧ i < A.length then as else A.getD j [] := by
  rw [List.getD_eq_getElem?_getD, List.getD_eq_getElem?_getD, List.getElem?_set]
  by_cases h : i = j
  · subst h
    by_cases hl : i < A.length
    · simp [hl]
    · simp [hl, List.getElem?_eq_none (by omega : A.length ≤ i)]
  · simp [h]

section
variable {cl xc : Clt} {W : WX} {C : Cxt} {X : Cx}
variable {Bp : Addr → Prop} {H H' : Hp} {σ : St} {env : PT.Env} {A : List (List Addr)}
/-- another heap, where one's own and the borrowed still stand -/
theorem Rel.to (R : Rel cl Bp H σ env A) (f : FP H H') (ko : ∀ a u, a ∈ A.flatten → H a = some u → H' a = some u) (kb : ∀ a u, Bp a → H a = some u → H' a = some u) : Rel cl Bp H' σ env A := by
  refine ⟨R.len, R.lenA, fun i => ?_, R.nd, R.dis, fun a b => ?_⟩
  · have q := R.slot i
    cases e : env.at i with
    | un => rw [e] at q; exact q
    | own o => rw [e] at q; obtain ⟨v, z, r⟩ := q; exact ⟨v, z, r.keep f fun a u h => ko a u (mem_getD h)⟩
    | bor o => rw [e] at q; obtain ⟨z, v, bs, z2, r⟩ := q; exact ⟨z, v, bs, z2, r.keepB f kb⟩
  · obtain ⟨u, h⟩ := R.bpt a b
    exact ⟨u, kb a u b h⟩
/-- a slot's data goes -/
theorem Rel.out (R : Rel cl Bp H σ env A) (i : Nat) : Rel cl Bp H σ (env.set i .un) (A.set i []) := by
  refine ⟨by rw [List.length_set]; exact R.len, by rw [List.length_set]; exact R.lenA, fun j => ?_, (List.nodup_append.mp (nodup_out i R.nd)).2.1, fun a h => R.dis a (set_sub A i a h), R.bpt⟩
  rw [at_set, getD_set]
  have el : env.length = A.length := R.len.trans R.lenA.symm
  rw [el]
  split
  · exact rfl
  · exact R.slot j
/-- a slot's data is given -/
theorem Rel.setS (R : Rel cl Bp H σ env A) {i : Nat} (hi : i < env.length) {s : SV} {v : V} {as : List Addr} (h : SlotOk cl Bp H (some (some v)) s as) (sep : (as ++ A.flatten).Nodup) (dis : ∀ a ∈ as, ¬ Bp a) : Rel cl Bp H (σ.set i (some v)) (env.set i s) (A.set i as) := by
  refine ⟨by rw [List.length_set, List.length_set]; exact R.len, by rw [List.length_set, List.length_set]; exact R.lenA, fun j => ?_, nodup_set sep, fun a h => ?_, R.bpt⟩
  · rw [at_set, getD_set]
    have el : env.length = A.length := R.len.trans R.lenA.symm
    by_cases hij : i = j
    · subst hij
      rw [if_pos ⟨rfl, hi⟩, if_pos ⟨rfl, by omega⟩, List.getElem?_set_self (by rw [← R.len]; exact hi)]
      exact h
    · rw [if_neg fun z => hij z.1, if_neg fun z => hij z.1, List.getElem?_set_ne hij]
      exact R.slot j
  · rcases mem_set h with h | h
    · exact dis a h
    · exact R.dis a (set_sub A i a h)
/-- the same object in the slot, told otherwise -/
theorem Rel.same_slot (R : Rel cl Bp H σ env A) {i : Nat} {s : SV} {as : List Addr} (hi : i < env.length) (h : SlotOk cl Bp H (σ[i]?) s as) (sep : (as ++ (A.set i []).flatten).Nodup) (dis : ∀ a ∈ as, ¬ Bp a) : Rel cl Bp H σ (env.set i s) (A.set i as) := by
  refine ⟨by rw [List.length_set]; exact R.len, by rw [List.length_set]; exact R.lenA, fun j => ?_, ?_, fun a h => ?_, R.bpt⟩
  · rw [at_set, getD_set]
    have el : env.length = A.length := R.len.trans R.lenA.symm
    by_cases hij : i = j
    · subst hij
      rw [if_pos ⟨rfl, hi⟩, if_pos ⟨rfl, by omega⟩]
      exact h
    · rw [if_neg fun z => hij z.1, if_neg fun z => hij z.1]
      exact R.slot j
  · have el : env.length = A.length := R.len.trans R.lenA.symm
    exact (perm_set A i as (by omega)).nodup_iff.mpr sep
  · rcases mem_set h with h | h
    · exact dis a h
    · exact R.dis a (set_sub A i a h)

/-! ### freezing -/
structure FrzTo (H : Hp) (as : List Addr) (H' : Hp) : Prop where
  at_ : ∀ a u, a ∈ as → H a = some u → ∃ od, H' a = some (.frz od u)
  off : ∀ a, a ∉ as → H' a = H a
theorem lockAll {pins : List (Addr × Obj)} {s : Shared} : ∀ (as : List Addr) (H : Hp), Inv X pins σ H s → as.Nodup → (∀ a ∈ as, MutU H a) → ∃ H', Inv X pins σ H' s ∧ FrzTo H as H'
  | [], H, I, _, _ => ⟨H, I, fun _ _ h => absurd h List.not_mem_nil, fun _ _ => rfl⟩
  | a :: as, H, I, nd, hm => by
    obtain ⟨u, e, mu⟩ := hm a List.mem_cons_self
    obtain ⟨od, I1⟩ := I.lock e mu
    have nd' := List.nodup_cons.mp nd
    have hne : ∀ b ∈ as, b ≠ a := fun b h z => nd'.1 (z ▸ h)
    obtain ⟨H', I2, F⟩ := lockAll as _ I1 nd'.2 fun b h => by
      obtain ⟨w, e, m⟩ := hm b (List.mem_cons_of_mem _ h)
      exact ⟨w, by rw [upd_ne (hne b h)]; exact e, m⟩
    refine ⟨H', I2, fun b w h eb => ?_, fun b h => ?_⟩
    · by_cases hb : b ∈ as
      · exact F.at_ b w hb (by rw [upd_ne (hne b hb)]; exact eb)
      · rcases List.mem_cons.mp h with rfl | h
        · rw [e] at eb
          cases eb
          exact ⟨od, by rw [F.off _ hb, upd_same]⟩
        · exact absurd h hb
    · have h1 : b ≠ a := fun z => h (z ▸ List.mem_cons_self)
      have h2 : b ∉ as := fun z => h (List.mem_cons_of_mem _ z)
      rw [F.off b h2, upd_ne h1]
/-- at an expression's end some things are frozen, unseen by Python -/
theorem pe_frz {e : Expr} {t : TE} (h : PE X e t) : PE X e fun σ H Q => t σ H fun v H1 => ∃ as : List Addr, as.Nodup ∧ (∀ a ∈ as, MutU H1 a) ∧ ∀ H2, FrzTo H1 as H2 → Q v H2 := by
  refine ⟨fun pins s σ H Q I q => ?_⟩
  refine thn (h.run pins s σ H _ I q) fun u s1 ⟨v, H1, I1, r, as, nd, hm, k⟩ => ?_
  obtain ⟨H2, I2, F⟩ := lockAll as H1 I1 nd hm
  exact ⟨v, H2, I2, r, k H2 F⟩
theorem FrzTo.fp {as : List Addr} (F : FrzTo H as H') (hm : ∀ a ∈ as, MutU H a) : FP H H' := fun a u e f => by
  rw [F.off a fun z => ?_]
  · exact e
  · obtain ⟨w, e2, m⟩ := hm a z
    rw [e] at e2
    cases e2
    cases u <;> first | exact absurd f Bool.false_ne_true | exact m
/-- a temporary is frozen -/
theorem EPost.frz {H1 : Hp} {A1 : List (List Addr)} {q : Bool} {o : OV} {env' : PT.Env} {v : V} {as : List Addr} {H2 : Hp} (p : EPost cl Bp H σ A q (.own o) env' v H1 A1 as) (F : FrzTo H1 as H2) : EPost cl Bp H σ A q (own o.view) env' v H2 A1 [] := by
  have ro : RepO cl .own H1 v o as := p.rv
  have hm := RepO.mut o ro
  have f := F.fp hm
  have hd := List.nodup_append.mp p.sep
  have off : ∀ a u, a ∉ as → H1 a = some u → H2 a = some u := fun a u h e => by rw [F.off a h]; exact e
  refine ⟨p.rel.to f (fun a u h e => off a u (fun z => hd.2.2 a z a h rfl) e) (fun a u h e => off a u (fun z => p.dis a z h) e), ?_, by simpa using p.rel.nd, fun a h => absurd h List.not_mem_nil, ?_, fun e => ?_⟩
  · simp only [own, RvOk, RepO]
    exact ⟨trivial, ro.freeze f o F.at_⟩
  · refine ⟨fun a u h n => ?_, fun a h => p.stp.fresh a (List.mem_append_right _ h)⟩
    have e1 := p.stp.keep a u h n
    refine off a u (fun z => ?_) e1
    rcases p.stp.fresh a (List.mem_append_left _ z) with z | z
    · exact n z
    · rw [h] at z; cases z
  · obtain ⟨e1, k⟩ := p.quiet e
    refine ⟨e1, fun a u h => off a u (fun z => ?_) (k a u h)⟩
    rcases p.stp.fresh a (List.mem_append_left _ z) with z2 | z2
    · subst e1
      exact hd.2.2 a z a z2 rfl
    · rw [h] at z2; cases z2
theorem te_fz {ea : Expr} {a : ME} (ha : PE X ea (TEv cl xc W C a)) : PE X ea (TEv cl xc W C (.fz a)) :=
  PE.imp (pe_frz ha) fun σ H Q h => by
    obtain ⟨Bp, env, A, c, env', R, e, kq⟩ := h
    rcases M.bind_some e with ⟨x, e1, h1, h2⟩ | ⟨r1, env1, h1, h2⟩
    · cases h2
      exact ⟨Bp, env, A, _, _, R, h1, kq⟩
    · refine ⟨Bp, env, A, _, _, R, h1, fun v1 H1 A1 as1 p1 => ?_⟩
      cases r1 with
      | bor i o => simp [M.lift, RV.frz] at h2
      | own o =>
        simp only [M.lift, RV.frz, Option.map_some, Option.some.injEq, Prod.mk.injEq] at h2
        obtain ⟨rfl, rfl⟩ := h2
        exact ⟨as1, (List.nodup_append.mp p1.sep).1, RepO.mut o p1.rv, fun H2 F => kq _ _ _ _ (p1.frz F)⟩
/-! ### a slot's data moved, frozen -/
theorem RepO.fzF {m : Md} {v : V} {t : PV} {as : List Addr} (h : RepO cl m H v (.fz t) as) : as = [] ∧ RepF cl H v t := by simpa only [RepO] using h
theorem te_mvS {m : ME} {i : Nat} {x : Str} {pos : Pos} (hm : evE C m = mvVar i) (hq : quiet m = false) (hN : X.N[i]? = some x) (hv : Vis X.env.scope x) (hd : (x == ("__debug__" : Str)) = false) (hcd : (x == ("__classdict__" : Str)) = false) : PE X (.Name x pos) (fun σ H Q => TEv cl xc W C m σ H fun v H' => σ[i]? = some (some v) → Q v H') :=
  PE.imp (pe_var hN hv hd hcd) fun σ H Q h => by
    obtain ⟨Bp, env, A, c, env', R, e, k⟩ := h
    rw [hm] at e
    have q := R.slot i
    unfold mvVar at e
    cases s : env.at i with
    | un => rw [s] at e; cases e
    | own o =>
      rw [s] at e q
      obtain ⟨v, z, ro⟩ := q
      cases e
      refine ⟨v, z, k v H (A.set i []) (A.getD i []) ⟨R.out i, ro, nodup_out i R.nd, fun a h => R.dis a (mem_getD h), ⟨fun _ _ h _ => h, fun a h => .inl ?_⟩, fun z => ?_⟩ z⟩
      · exact (perm_out A i).mem_iff.mpr h
      · rw [hq] at z; cases z
    | bor o =>
      rw [s] at e q
      obtain ⟨_, v, bs, z, ro⟩ := q
      cases o with
      | fz t =>
        cases e
        exact ⟨v, z, k v H A [] (by
          have p := R.same (σ := σ) ro.fzF.2
          exact ⟨p.rel, p.rv, p.sep, p.dis, p.stp, fun z => by rw [hq] at z; cases z⟩) z⟩
      | lst _ => cases e
      | tup _ => cases e
      | dic _ _ => cases e
      | ins _ _ => cases e
theorem te_mv {m : ME} {i : Nat} {x : Str} {pos : Pos} (hm : evE C m = mvVar i) (hq : quiet m = false) (hN : X.N[i]? = some x) (hv : Vis X.env.scope x) (hd : (x == ("__debug__" : Str)) = false) (hcd : (x == ("__classdict__" : Str)) = false) : PE X (.Name x pos) (TEv cl xc W C m) :=
  PE.imp (te_mvS hm hq hN hv hd hcd) fun σ H Q h => by
    obtain ⟨Bp, env, A, c, env', R, e, k⟩ := h
    refine ⟨Bp, env, A, c, env', R, e, ?_⟩
    cases c with
    | ok r => exact fun v H' A' as p _ => k v H' A' as p
    | error x => exact k
theorem te_fzv {i : Nat} {x : Str} {pos : Pos} (hN : X.N[i]? = some x) (hv : Vis X.env.scope x) (hd : (x == ("__debug__" : Str)) = false) (hcd : (x == ("__classdict__" : Str)) = false) : PE X (.Name x pos) (TEv cl xc W C (.fzv i)) :=
  PE.imp (pe_frz (pe_var hN hv hd hcd)) fun σ H Q h => by
    obtain ⟨Bp, env, A, c, env', R, e, k⟩ := h
    have e : fzVar i env = some (c, env') := e
    have q := R.slot i
    unfold fzVar at e
    cases s : env.at i with
    | un => rw [s] at e; cases e
    | own o =>
      rw [s] at e q
      obtain ⟨v, z, ro⟩ := q
      cases e
      have hi : i < env.length := by
        rw [R.len]
        exact (List.getElem?_eq_some_iff.mp z).1
      have no := nodup_out i R.nd
      have hm := RepO.mut o ro
      refine ⟨v, z, A.getD i [], (List.nodup_append.mp no).1, hm, fun H2 F => ?_⟩
      have f := F.fp hm
      have off : ∀ a u, a ∉ A.getD i [] → H a = some u → H2 a = some u := fun a u h e => by rw [F.off a h]; exact e
      have R1 : Rel cl Bp H2 σ (env.set i .un) (A.set i []) := (R.out i).to f (fun a u h e => off a u (fun z => (List.nodup_append.mp no).2.2 a z a h rfl) e) fun a u h e => off a u (fun z => R.dis a (mem_getD z) h) e
      have ro2 : RepF cl H2 v o.view := ro.freeze f o F.at_
      have R2 := R1.same_slot (i := i) (s := .own (.fz o.view)) (as := []) (by rw [List.length_set]; exact hi) ⟨v, z, by simp only [RepO]; exact ⟨trivial, ro2⟩⟩ (by simpa using (List.nodup_append.mp no).2.1) fun a h => absurd h List.not_mem_nil
      rw [List.set_set, List.set_set] at R2
      refine k v H2 (A.set i []) [] ⟨R2, ?_, by simpa using R2.nd, fun a h => absurd h List.not_mem_nil, ⟨fun a u e n => off a u (fun z => n (mem_getD z)) e, fun a h => .inl (set_sub A i a h)⟩, fun z => nomatch z⟩
      simp only [RvOk, RepO]
      exact ⟨trivial, ro2⟩
    | bor o =>
      rw [s] at e q
      obtain ⟨_, v, bs, z, ro⟩ := q
      cases o with
      | fz t =>
        cases e
        refine ⟨v, z, [], List.nodup_nil, fun a h => absurd h List.not_mem_nil, fun H2 F => ?_⟩
        have e2 : H2 = H := funext fun a => F.off a List.not_mem_nil
        subst e2
        have p := R.same (σ := σ) ro.fzF.2
        exact k v H2 A [] ⟨p.rel, p.rv, p.sep, p.dis, p.stp, fun z => nomatch z⟩
      | lst _ => cases e
      | tup _ => cases e
      | dic _ _ => cases e
      | ins _ _ => cases e
end
end PTS

set_option linter.all false
set_option maxRecDepth 100000
/-! lists of values, displays, items, slices, truths -/
namespace PTS
open PySem L2 PT

theorem PE.or {X : Cx} {e : Expr} {t u : TE} (h1 : PE X e t) (h2 : PE X e u) : PE X e fun σ H Q => t σ H Q ∨ u σ H Q := ⟨fun pins s σ H Q I q => q.elim (h1.run pins s σ H Q I) (h2.run pins s σ H Q I)⟩

section
variable {cl xc : Clt} {W : WX} {C : Cxt} {X : Cx}
/-- what a row of values is -/
def RvsOk (cl : Clt) (Bp : Addr → Prop) (H : Hp) (A : List (List Addr)) : List V → List RV → List Addr → Prop
  | [], [], as => as = []
  | v :: vs, r :: rs, as => ∃ b c, as = b ++ c ∧ RvOk cl Bp H A v r b ∧ RvsOk cl Bp H A vs rs c
  | _, _, _ => False
/-- a moved slot's value stands in the row -/
def IoOk (σ : St) : List ME → List V → Prop
  | m :: ms, v :: vs => (∀ i, m = .io i → σ[i]? = some (some v)) ∧ IoOk σ ms vs
  | _, _ => True
structure BPost (cl : Clt) (Bp : Addr → Prop) (H : Hp) (σ : St) (ms : List ME) (A : List (List Addr)) (q : Bool) (rs : List RV) (env' : PT.Env) (vs : List V) (H' : Hp) (A' : List (List Addr)) (as : List Addr) : Prop where
  rel : Rel cl Bp H' σ env' A'
  rvs : RvsOk cl Bp H' A' vs rs as
  sep : (as ++ A'.flatten).Nodup
  dis : ∀ a ∈ as, ¬ Bp a
  stp : Stp A.flatten H (as ++ A'.flatten) H'
  quiet : q = true → A' = A ∧ ∀ a u, H a = some u → H' a = some u
  io : IoOk σ ms vs
def TB (cl xc : Clt) (W : WX) (ms : List ME) (q : Bool) (f : M (List RV)) : TA := fun σ H Q => ∃ Bp env A c env', Rel cl Bp H σ env A ∧ f env = some (c, env') ∧
  match c with
  | .ok rs => ∀ vs H' A' as, BPost cl Bp H σ ms A q rs env' vs H' A' as → Q vs H'
  | .error x => ∀ cls d H' A', XPost cl xc Bp H σ A x env' cls d H' A' → W cls d σ H'
abbrev TBv (cl xc : Clt) (W : WX) (C : Cxt) (ms : List ME) : TA := TB cl xc W ms (quiets ms) (evBs C ms)
theorem ta_nil : PA X [] (TBv cl xc W C []) := PA.imp pa_nil fun σ H Q h => by
  obtain ⟨Bp, env, A, c, env', R, e, k⟩ := h
  cases e
  exact k [] H A [] ⟨R, rfl, by simpa using R.nd, fun a h => absurd h List.not_mem_nil, Stp.refl, fun _ => ⟨rfl, fun _ _ h => h⟩, trivial⟩
theorem io_none {m : ME} (hm : ∀ i, m ≠ .io i) : ioOf m = none := by
  cases m <;> first | rfl | exact absurd rfl (hm _)
theorem evBs_cons {m : ME} {ms : List ME} (hm : ∀ i, m ≠ .io i) : evBs C (m :: ms) = M.bind ((ev C m).1) fun x => if x.isBor && !quiets ms then M.stuck else M.bind (evBs C ms) fun xs => M.pure (x :: xs) := by
  show evHd (ioOf m) _ _ _ = _
  rw [io_none hm]
  rfl
theorem plVar_ok {Bp : Addr → Prop} {H : Hp} {σ : St} {A : List (List Addr)} {i : Nat} {env env' : PT.Env} {c : Except Ex (Nat × List PT.Stp)} (R : Rel cl Bp H σ env A) (e : plVar i env = some (c, env')) : (∃ w, σ[i]? = some (some w)) ∧ c = .ok (i, []) ∧ env' = env := by
  unfold plVar at e
  have q := R.slot i
  cases hs : env.at i with
  | un => rw [hs] at e; cases e
  | own o =>
    rw [hs] at e q
    obtain ⟨w, z, _⟩ := q
    cases e
    exact ⟨⟨w, z⟩, rfl, rfl⟩
  | bor o =>
    rw [hs] at e q
    obtain ⟨_, w, _, z, _⟩ := q
    cases e
    exact ⟨⟨w, z⟩, rfl, rfl⟩
theorem RvsOk.out {Bp : Addr → Prop} {H : Hp} {A : List (List Addr)} {i : Nat} : ∀ {vs : List V} {rs : List RV} {as : List Addr}, RvsOk cl Bp H A vs rs as → rs.any (RV.borOf i) = false → RvsOk cl Bp H (A.set i []) vs rs as
  | [], [], as, h, _ => h
  | v :: vs, r :: rs, as, h, hb => by
    obtain ⟨b, c, e, h1, h2⟩ := h
    simp only [List.any_cons, Bool.or_eq_false_iff] at hb
    refine ⟨b, c, e, ?_, RvsOk.out h2 hb.2⟩
    cases r with
    | own o => exact h1
    | bor j o =>
      have hj : j ≠ i := by simpa [RV.borOf] using hb.1
      have : (A.set i []).getD j [] = A.getD j [] := by rw [getD_set, if_neg fun z => hj z.1.symm]
      show _ ∧ _
      rw [this]
      exact h1
  | [], _ :: _, as, h, _ => absurd h (by simp [RvsOk])
  | _ :: _, [], as, h, _ => absurd h (by simp [RvsOk])
theorem consR {m : ME} {ms : List ME} (hm : ∀ i, m ≠ .io i) {σ : St} {H : Hp} {Q : List V → Hp → Prop} (h : TBv cl xc W C (m :: ms) σ H Q) : tCons (TEv cl xc W C m) (TBv cl xc W C ms) σ H Q := by
    obtain ⟨Bp, env, A, c, env', R, e, kq⟩ := h
    rw [evBs_cons hm] at e
    rcases M.bind_some e with ⟨x, e1, h1, h2⟩ | ⟨r1, env1, h1, h2⟩
    · cases h2
      exact ⟨Bp, env, A, _, _, R, h1, kq⟩
    · refine ⟨Bp, env, A, _, _, R, h1, fun v1 H1 A1 as1 p1 => ?_⟩
      cases hb : r1.isBor && !quiets ms with
      | true => rw [hb] at h2; simp [M.stuck] at h2
      | false =>
        rw [hb] at h2
        simp only [Bool.false_eq_true, if_false] at h2
        rcases M.bind_some h2 with ⟨x, e2, g1, g2⟩ | ⟨rs, env2, g1, g2⟩
        · cases g2
          exact ⟨Bp, env1, A1, _, _, p1.rel, g1, fun cls d H' A' z => kq cls d H' A' (z.behind p1)⟩
        · refine ⟨Bp, env1, A1, _, _, p1.rel, g1, fun vs H2 A2 as2 p2 => ?_⟩
          cases g2
          have f := p2.stp.fp p1.rel.mut
          have keep : RvOk cl Bp H2 A2 v1 r1 as1 := by
            cases r1 with
            | own o =>
              have h : RepO cl .own H1 v1 o as1 := p1.rv
              exact h.keep f fun a u ha e => p2.stp.keep a u e fun z => (List.nodup_append.mp p1.sep).2.2 a ha a z rfl
            | bor i o =>
              have e : quiets ms = true := by simpa [RV.isBor] using hb
              obtain ⟨e1, k⟩ := p2.quiet e
              obtain ⟨z, bs, h⟩ := p1.rv
              subst e1
              exact ⟨z, bs, h.tr f o fun a u _ q => by
                rcases q with ⟨o, q⟩ | ⟨q, b⟩
                · exact .inl ⟨o, k _ _ q⟩
                · exact .inr ⟨k _ _ q, b⟩⟩
          have apart : ∀ a ∈ as1, a ∉ as2 ++ A2.flatten := fun a h z => by
            rcases p2.stp.fresh a z with z | z
            · exact (List.nodup_append.mp p1.sep).2.2 a h a z rfl
            · cases r1 with
              | own o =>
                obtain ⟨u, e, _⟩ := RepO.mut o (show RepO cl .own H1 v1 o as1 from p1.rv) a h
                rw [z] at e; cases e
              | bor i o =>
                obtain ⟨q, _⟩ := p1.rv
                rw [q] at h
                exact absurd h List.not_mem_nil
          refine kq (v1 :: vs) H2 A2 (as1 ++ as2) ⟨p2.rel, ⟨as1, as2, rfl, keep, p2.rvs⟩, ?_, fun a h => (List.mem_append.mp h).elim (p1.dis a) (p2.dis a), ?_, fun e => ?_, ?_⟩
          · rw [List.append_assoc]
            exact List.nodup_append.mpr ⟨(List.nodup_append.mp p1.sep).1, p2.sep, fun a h b hb e => apart a h (e ▸ hb)⟩
          · have s2 := (p1.stp.less fun _ h => List.mem_append_right _ h).trans p2.stp
            refine ⟨s2.keep, fun a h => ?_⟩
            rw [List.append_assoc] at h
            rcases List.mem_append.mp h with h | h
            · exact p1.stp.fresh a (List.mem_append_left _ h)
            · exact s2.fresh a h
          · simp only [quiets, Bool.and_eq_true] at e
            obtain ⟨e1, k1⟩ := p1.quiet e.1
            obtain ⟨e2, k2⟩ := p2.quiet e.2
            exact ⟨e2.trans e1, fun a u h => k2 a u (k1 a u h)⟩
          · exact ⟨fun i e => absurd e (hm i), p2.io⟩
/-- a slot that is moved: the name first, the data last -/
theorem consIo {i : Nat} {ms : List ME} {σ : St} {H : Hp} {Q : List V → Hp → Prop} (h : TBv cl xc W C (.io i :: ms) σ H Q) : tCons (tVar i) (TBv cl xc W C ms) σ H Q := by
  obtain ⟨Bp, env, A, c, env', R, e, kq⟩ := h
  rcases M.bind_some (show M.bind (plVar i) (fun _ => M.bind (evBs C ms) fun xs => if xs.any (RV.borOf i) then M.stuck else M.bind (mvVar i) fun x => M.pure (x :: xs)) env = some (c, env') from e) with ⟨x, e1, h1, h2⟩ | ⟨ip, env1, h1, h2⟩
  · obtain ⟨_, h, _⟩ := plVar_ok R h1
    cases h
  · obtain ⟨⟨w, hw⟩, _, rfl⟩ := plVar_ok R h1
    refine ⟨w, hw, ?_⟩
    rcases M.bind_some h2 with ⟨x, e2, g1, g2⟩ | ⟨rs, env2, g1, g2⟩
    · cases g2
      exact ⟨Bp, env1, A, _, _, R, g1, kq⟩
    · refine ⟨Bp, env1, A, _, _, R, g1, fun vs H2 A2 as2 p2 => ?_⟩
      cases hb : rs.any (RV.borOf i) with
      | true => rw [hb] at g2; cases g2
      | false =>
        rw [hb] at g2
        simp only [Bool.false_eq_true, if_false] at g2
        have sp := List.nodup_append.mp p2.sep
        rcases M.bind_some g2 with ⟨x, e3, f1, f2⟩ | ⟨r, env3, f1, f2⟩
        · unfold mvVar at f1
          cases hs : env2.at i with
          | un => rw [hs] at f1; cases f1
          | own o => rw [hs] at f1; cases f1
          | bor o => rw [hs] at f1; cases o <;> cases f1
        · simp only [M.pure, Option.some.injEq, Prod.mk.injEq] at f2
          obtain ⟨rfl, rfl⟩ := f2
          have q := p2.rel.slot i
          unfold mvVar at f1
          cases hs : env2.at i with
          | un => rw [hs] at f1; cases f1
          | own o =>
            rw [hs] at f1 q
            cases f1
            obtain ⟨w', hw', ro⟩ := q
            rw [hw] at hw'
            cases hw'
            have no := List.nodup_append.mp (nodup_out i p2.rel.nd)
            have hin : ∀ a, a ∈ A2.getD i [] → a ∈ A2.flatten := fun a h => mem_getD h
            refine kq (w :: vs) H2 (A2.set i []) (A2.getD i [] ++ as2) ⟨p2.rel.out i, ⟨_, as2, rfl, ro, p2.rvs.out hb⟩, ?_, fun a h => ?_, ⟨p2.stp.keep, fun a h => p2.stp.fresh a ?_⟩, (fun z => by simp [quiets, quiet] at z), ⟨fun j e => by cases e; exact hw, p2.io⟩⟩
            · rw [List.append_assoc]
              refine List.nodup_append.mpr ⟨no.1, List.nodup_append.mpr ⟨sp.1, no.2.1, fun a h b hb => sp.2.2 a h b (set_sub A2 i b hb)⟩, fun a h b hb e => ?_⟩
              subst e
              rcases List.mem_append.mp hb with z | z
              · exact sp.2.2 a z a (hin a h) rfl
              · exact no.2.2 a h a z rfl
            · rcases List.mem_append.mp h with h | h
              · exact p2.rel.dis a (hin a h)
              · exact p2.dis a h
            · rcases List.mem_append.mp h with h | h
              · rcases List.mem_append.mp h with h | h
                · exact List.mem_append_right _ (hin a h)
                · exact List.mem_append_left _ h
              · exact List.mem_append_right _ (set_sub A2 i a h)
          | bor o =>
            rw [hs] at f1 q
            cases o with
            | fz t =>
              cases f1
              obtain ⟨_, w', bs, hw', ro⟩ := q
              rw [hw] at hw'
              cases hw'
              exact kq (w :: vs) H2 A2 as2 ⟨p2.rel, ⟨[], as2, rfl, by simp only [RvOk, RepO]; exact ⟨trivial, ro.fzF.2⟩, p2.rvs⟩, p2.sep, p2.dis, p2.stp, (fun z => by simp [quiets, quiet] at z), ⟨fun j e => by cases e; exact hw, p2.io⟩⟩
            | _ => cases f1
theorem ta_io {i : Nat} {x : Str} {pos : Pos} {es : List Expr} {ms : List ME} (hN : X.N[i]? = some x) (hv : Vis X.env.scope x) (hd : (x == ("__debug__" : Str)) = false) (hcd : (x == ("__classdict__" : Str)) = false) (hr : PA X es (TBv cl xc W C ms)) (hs : starEach (.Name x pos :: es) X.env = (false, eval (.Name x pos) X.env) :: starEach es X.env) : PA X (.Name x pos :: es) (TBv cl xc W C (.io i :: ms)) :=
  PA.imp (pa_cons (pe_var hN hv hd hcd) hr hs) fun σ H Q h => consIo h
theorem PK.imp {X : Cx} {e : List Keyword} {t t' : TA} (h : PK X e t) (k : ∀ σ H Q, t' σ H Q → t σ H Q) : PK X e t' := ⟨fun pos pins s σ H Q I q => h.run pos pins s σ H Q I (k σ H Q q)⟩
theorem tk_nil : PK X [] (TBv cl xc W C []) := PK.imp pk_nil fun σ H Q h => by
  obtain ⟨Bp, env, A, c, env', R, e, k⟩ := h
  cases e
  exact k [] H A [] ⟨R, rfl, by simpa using R.nd, fun a h => absurd h List.not_mem_nil, Stp.refl, fun _ => ⟨rfl, fun _ _ h => h⟩, trivial⟩
theorem tk_cons {e : Expr} {nm : Option Str} {kpos : Pos} {kws : List Keyword} {m : ME} {ms : List ME} (hm : ∀ i, m ≠ .io i) (he : PE X e (TEv cl xc W C m)) (hr : PK X kws (TBv cl xc W C ms)) : PK X (⟨nm, e, kpos⟩ :: kws) (TBv cl xc W C (m :: ms)) :=
  PK.imp (pk_cons he hr) fun σ H Q h => consR hm h
theorem ta_cons {e : Expr} {es : List Expr} {m : ME} {ms : List ME} (hm : ∀ i, m ≠ .io i) (he : PE X e (TEv cl xc W C m)) (hr : PA X es (TBv cl xc W C ms)) (hs : starEach (e :: es) X.env = (false, eval e X.env) :: starEach es X.env) : PA X (e :: es) (TBv cl xc W C (m :: ms)) :=
  PA.imp (pa_cons he hr hs) fun σ H Q h => consR hm h
theorem RvsOk.rd {Bp : Addr → Prop} {H : Hp} {A : List (List Addr)} : ∀ {vs : List V} {rs : List RV} {as : List Addr}, RvsOk cl Bp H A vs rs as → RdTs cl H vs (rs.map RV.t)
  | [], [], as, h => by simp [RdTs]
  | v :: vs, r :: rs, as, h => by
    obtain ⟨b, c, _, h1, h2⟩ := h
    simp only [List.map_cons, RdTs]
    exact ⟨h1.rd, RvsOk.rd h2⟩
  | [], _ :: _, as, h => absurd h (by simp [RvsOk])
  | _ :: _, [], as, h => absurd h (by simp [RvsOk])
theorem RvsOk.own {Bp : Addr → Prop} {H : Hp} {A : List (List Addr)} : ∀ {vs : List V} {rs : List RV} {as : List Addr} {os : List OV}, RvsOk cl Bp H A vs rs as → allOwn rs = some os → RepOs cl .own H vs os as
  | [], [], as, os, h, e => by cases e; simpa [RepOs, RvsOk] using h
  | v :: vs, .own o :: rs, as, os, h, e => by
    obtain ⟨b, c, e1, h1, h2⟩ := h
    simp only [allOwn] at e
    cases q : allOwn rs with
    | none => rw [q] at e; cases e
    | some qs =>
      rw [q] at e
      cases e
      simp only [RepOs]
      exact ⟨b, c, e1, h1, RvsOk.own h2 q⟩
  | v :: vs, .bor i o :: rs, as, os, h, e => by cases e
  | [], _ :: _, as, os, h, e => absurd h (by simp [RvsOk])
  | _ :: _, [], as, os, h, e => absurd h (by simp [RvsOk])
theorem RvsOk.fz {Bp : Addr → Prop} {H : Hp} {A : List (List Addr)} : ∀ {vs : List V} {rs : List RV} {as : List Addr} {ts : List PV}, RvsOk cl Bp H A vs rs as → allFz rs = some ts → RepFs cl H vs ts ∧ as = []
  | [], [], as, ts, h, e => by cases e; exact ⟨by simp [RepFs], by simpa [RvsOk] using h⟩
  | v :: vs, .own (.fz t) :: rs, as, ts, h, e => by
    obtain ⟨b, c, e1, h1, h2⟩ := h
    simp only [allFz] at e
    cases q : allFz rs with
    | none => rw [q] at e; cases e
    | some qs =>
      rw [q] at e
      cases e
      obtain ⟨g1, g2⟩ := RvsOk.fz h2 q
      obtain ⟨k1, k2⟩ := RepO.fzF (m := .own) h1
      simp only [RepFs]
      exact ⟨⟨k2, g1⟩, by rw [e1, k1, g2]; rfl⟩
  | v :: vs, .bor i o :: rs, as, ts, h, e => by cases e
  | v :: vs, .own (.lst _) :: rs, as, ts, h, e => by cases e
  | v :: vs, .own (.tup _) :: rs, as, ts, h, e => by cases e
  | v :: vs, .own (.dic _ _) :: rs, as, ts, h, e => by cases e
  | v :: vs, .own (.ins _ _) :: rs, as, ts, h, e => by cases e
  | [], _ :: _, as, ts, h, e => absurd h (by simp [RvsOk])
  | _ :: _, [], as, ts, h, e => absurd h (by simp [RvsOk])
theorem RvsOk.mut {Bp : Addr → Prop} {H : Hp} {A : List (List Addr)} : ∀ {vs : List V} {rs : List RV} {as : List Addr}, RvsOk cl Bp H A vs rs as → ∀ a ∈ as, MutU H a
  | [], [], as, h => by
    simp only [RvsOk] at h
    subst h
    exact fun a h => absurd h List.not_mem_nil
  | v :: vs, r :: rs, as, h => by
    obtain ⟨b, c, e, h1, h2⟩ := h
    subst e
    intro a ha
    rcases List.mem_append.mp ha with ha | ha
    · cases r with
      | own o => exact RepO.mut o h1 a ha
      | bor i o =>
        obtain ⟨q, _⟩ := h1
        rw [q] at ha
        exact absurd ha List.not_mem_nil
    · exact RvsOk.mut h2 a ha
  | [], _ :: _, as, h => absurd h (by simp [RvsOk])
  | _ :: _, [], as, h => absurd h (by simp [RvsOk])
theorem RvsOk.length {Bp : Addr → Prop} {H : Hp} {A : List (List Addr)} : ∀ {vs : List V} {rs : List RV} {as : List Addr}, RvsOk cl Bp H A vs rs as → vs.length = rs.length
  | [], [], as, h => rfl
  | v :: vs, r :: rs, as, h => by
    obtain ⟨b, c, e, h1, h2⟩ := h
    simp [RvsOk.length h2]
  | [], _ :: _, as, h => absurd h (by simp [RvsOk])
  | _ :: _, [], as, h => absurd h (by simp [RvsOk])
/-- behind a row, one new thing made of its values -/
theorem BPost.made {Bp : Addr → Prop} {H H1 H2 : Hp} {σ : St} {A A1 : List (List Addr)} {q : Bool} {rs : List RV} {env1 : PT.Env} {vs : List V} {as as2 : List Addr} {o : OV} {v : V} {ms : List ME} (p : BPost cl Bp H σ ms A q rs env1 vs H1 A1 as)
    (all : ∀ a u, H1 a = some u → H2 a = some u) (ro : RepO cl .own H2 v o as2) (nd : as2.Nodup) (new : ∀ a ∈ as2, a ∈ as ∨ H1 a = none) : EPost cl Bp H σ A q (.own o) env1 v H2 A1 as2 := by
  have sp := List.nodup_append.mp p.sep
  refine ⟨p.rel.all all, ro, ?_, fun a h => ?_, ⟨fun a u h n => all a u (p.stp.keep a u h n), fun a h => ?_⟩, fun e => ?_⟩
  · refine List.nodup_append.mpr ⟨nd, sp.2.1, fun a h b hb e => ?_⟩
    subst e
    rcases new a h with z | z
    · exact sp.2.2 a z a hb rfl
    · obtain ⟨u, e, _⟩ := p.rel.mut a hb
      rw [z] at e; cases e
  · rcases new a h with z | z
    · exact p.dis a z
    · intro b
      obtain ⟨u, e⟩ := p.rel.bpt a b
      rw [z] at e; cases e
  · rcases List.mem_append.mp h with h | h
    · rcases new a h with z | z
      · exact p.stp.fresh a (List.mem_append_left _ z)
      · by_cases m : a ∈ A.flatten
        · exact .inl m
        · refine .inr ?_
          cases e : H a with
          | none => rfl
          | some u => rw [p.stp.keep a u e m] at z; cases z
    · exact p.stp.fresh a (List.mem_append_right _ h)
  · obtain ⟨e1, k⟩ := p.quiet e
    exact ⟨e1, fun a u h => all a u (k a u h)⟩
theorem RepFs.length {H : Hp} : ∀ {vs : List V} {ts : List PV}, RepFs cl H vs ts → vs.length = ts.length
  | [], [], _ => rfl
  | v :: vs, t :: ts, h => by
    simp only [RepFs] at h
    simp [RepFs.length h.2]
  | [], _ :: _, h => absurd h (by simp [RepFs])
  | _ :: _, [], h => absurd h (by simp [RepFs])
theorem RepOs.length {m : Md} {H : Hp} : ∀ {vs : List V} {ts : List OV} {as : List Addr}, RepOs cl m H vs ts as → vs.length = ts.length
  | [], [], _, _ => rfl
  | v :: vs, t :: ts, as, h => by
    simp only [RepOs] at h
    obtain ⟨b, c, _, _, h⟩ := h
    simp [RepOs.length h]
  | [], _ :: _, _, h => absurd h (by simp [RepOs])
  | _ :: _, [], _, h => absurd h (by simp [RepOs])
theorem upd_all {H : Hp} {p : Addr} {o : HO} (n : H p = none) : ∀ a u, H a = some u → upd H p o a = some u := fun a u h => by
  rw [upd_ne (ne_of_none h n)]; exact h
/-- a row's end made into one value -/
theorem rowE {f : List RV → Option RV} {ms : List ME} {σ : St} {H : Hp} {Q : VK} {R : List V → Hp → Prop}
    (h : TM cl xc W (quiets ms) (M.bind (evBs C ms) fun rs => M.lift (f rs)) σ H Q)
    (k : ∀ {Bp : Addr → Prop} {H1 : Hp} {A A1 : List (List Addr)} {rs : List RV} {r : RV} {env1 : PT.Env} {vs : List V} {as : List Addr}, BPost cl Bp H σ ms A (quiets ms) rs env1 vs H1 A1 as → f rs = some r → (∀ v H' A' as', EPost cl Bp H σ A (quiets ms) r env1 v H' A' as' → Q v H') → R vs H1) :
    TBv cl xc W C ms σ H R := by
  obtain ⟨Bp, env, A, c, env', R0, e, kq⟩ := h
  rcases M.bind_some e with ⟨x, e1, h1, h2⟩ | ⟨rs, env1, h1, h2⟩
  · cases h2
    exact ⟨Bp, env, A, _, _, R0, h1, kq⟩
  · refine ⟨Bp, env, A, _, _, R0, h1, fun vs H1 A1 as p => ?_⟩
    cases q : f rs with
    | none => rw [q] at h2; simp [M.lift] at h2
    | some r =>
      rw [q] at h2
      simp only [M.lift, Option.map_some, Option.some.injEq, Prod.mk.injEq] at h2
      obtain ⟨rfl, rfl⟩ := h2
      exact k p q kq
theorem te_lst {es : List Expr} {ms : List ME} {pos : Pos} (h : PA X es (TBv cl xc W C ms)) : PE X (.List es pos) (TEv cl xc W C (.lst ms)) :=
  PE.imp (pe_lst h) fun σ H Q h => rowE (f := lstR) h fun {Bp H1 A A1 rs r env1 vs as} p e kq => by
    unfold lstR at e
    cases q : allOwn rs with
    | none => rw [q] at e; cases e
    | some os =>
      rw [q] at e
      simp only at e
      split at e
      · rename_i hl
        cases e
        have ro := p.rvs.own q
        refine ⟨by rw [ro.length, ← line_eq]; exact hl, fun a ha => kq _ _ A1 (a :: as) (p.made (upd_all ha) ?_ ?_ fun b hb => ?_)⟩
        · simp only [RepO]
          refine ⟨a, vs, as, rfl, upd_same, rfl, ?_⟩
          refine RepOs.tr (fun b u h _ => upd_all ha b u h) os ro fun b u hb z => ?_
          exact upd_all ha b u z
        · refine List.nodup_cons.mpr ⟨fun z => ?_, (List.nodup_append.mp p.sep).1⟩
          obtain ⟨u, e, _⟩ := p.rvs.mut a z
          rw [ha] at e; cases e
        · rcases List.mem_cons.mp hb with rfl | hb
          · exact .inr ha
          · exact .inl hb
      · cases e
theorem te_tup {es : List Expr} {ms : List ME} {k : Nat} {pos : Pos} (h : PA X es (TBv cl xc W C ms)) : PE X (.Tuple es k pos) (TEv cl xc W C (.tup ms)) :=
  PE.imp (pe_tup h) fun σ H Q h => rowE (f := tupR) h fun {Bp H1 A A1 rs r env1 vs as} p e kq => by
    unfold tupR at e
    cases q : allFz rs with
    | none =>
      rw [q] at e
      simp only at e
      cases q2 : allOwn rs with
      | none => rw [q2] at e; cases e
      | some os =>
        rw [q2] at e
        simp only at e
        split at e
        · rename_i hl
          cases e
          have ro := p.rvs.own q2
          refine ⟨by rw [ro.length, ← line_eq]; exact hl, fun a ha => kq _ _ A1 as (p.made (upd_all ha) ?_ (List.nodup_append.mp p.sep).1 fun b hb => .inl hb)⟩
          simp only [RepO]
          exact ⟨a, vs, rfl, upd_same, RepOs.tr (fun b u h _ => upd_all ha b u h) os ro fun b u hb z => upd_all ha b u z⟩
        · cases e
    | some ts =>
      rw [q] at e
      simp only at e
      split at e
      · rename_i hl
        cases e
        obtain ⟨rf, e0⟩ := p.rvs.fz q
        refine ⟨by rw [rf.length, ← line_eq]; exact hl, fun a ha => kq _ _ A1 [] (p.made (upd_all ha) ?_ List.nodup_nil fun b hb => absurd hb List.not_mem_nil)⟩
        simp only [RepO, RepF]
        exact ⟨trivial, a, vs, rfl, upd_same, RepFs.fp (fun b u h _ => upd_all ha b u h) ts rf⟩
      · cases e
/-- a built-in function by its arguments' trees -/
def rL (cl : Clt) (g : List PV → Option OV) : List V → Hp → VK → Prop := fun xs H Q => ∃ ts o, RdTs cl H xs ts ∧ g ts = some o ∧ ∀ v H' as, Alloc cl H v o H' as → Q v H'
theorem BPost.al {Bp : Addr → Prop} {H H1 H2 : Hp} {σ : St} {A A1 : List (List Addr)} {q : Bool} {rs : List RV} {env1 : PT.Env} {vs : List V} {as as2 : List Addr} {o : OV} {v : V} {ms : List ME} (p : BPost cl Bp H σ ms A q rs env1 vs H1 A1 as) (n : Alloc cl H1 v o H2 as2) : EPost cl Bp H σ A q (.own o) env1 v H2 A1 as2 :=
  p.made n.all n.rep n.nd fun a h => .inr (n.new a h)
theorem te_bi {f : Bi} {g : List PV → Option OV} {id : String} {x : Str} {e : Expr} {es : List Expr} {p pos : Pos} {m : ME} {ms : List ME} (hg : ∀ rs, biR C f rs = (g (rs.map RV.t)).map .own) (hc : CallR X (.builtin id) (rL cl g)) (hgl : Gl X x) (hm : X.mg x = none) (hv : bootBuiltins x = some (.builtin id))
    (ha : PA X (e :: es) (TBv cl xc W C (m :: ms))) (hn : x ≠ "__name__") (hdb : (x == ("__debug__" : Str)) = false) (he : starEach (e :: es) X.env = (false, eval e X.env) :: starEach es X.env) (hpl : (backTo pos (starEach es X.env)).any (·.1) = false) :
    PE X (.Call (.Name x p) (e :: es) [] pos) (TEv cl xc W C (.bi f (m :: ms))) :=
  PE.imp (pe_callB hc hgl hm hv ha hn hdb he hpl) fun σ H Q h => rowE (f := biR C f) h fun {Bp H1 A A1 rs r env1 vs as} p e kq => by
    rw [hg] at e
    cases q : g (rs.map RV.t) with
    | none => rw [q] at e; cases e
    | some o =>
      rw [q] at e
      cases e
      exact ⟨_, o, p.rvs.rd, q, fun v H' as' n => kq v H' A1 as' (p.al n)⟩
theorem te_biT {f : Bi} {g : List PV → Option OV} {T : String} {x : Str} {e : Expr} {es : List Expr} {p pos : Pos} {m : ME} {ms : List ME} (hg : ∀ rs, biR C f rs = (g (rs.map RV.t)).map .own) (hc : CallR X (.type T) (rL cl g)) (hgl : Gl X x) (hm : X.mg x = none) (hv : bootBuiltins x = some (.type T))
    (ha : PA X (e :: es) (TBv cl xc W C (m :: ms))) (hn : x ≠ "__name__") (hdb : (x == ("__debug__" : Str)) = false) (he : starEach (e :: es) X.env = (false, eval e X.env) :: starEach es X.env) (hpl : (backTo pos (starEach es X.env)).any (·.1) = false) :
    PE X (.Call (.Name x p) (e :: es) [] pos) (TEv cl xc W C (.bi f (m :: ms))) :=
  PE.imp (pe_callTy hc hgl hm hv ha hn hdb he hpl) fun σ H Q h => rowE (f := biR C f) h fun {Bp H1 A A1 rs r env1 vs as} p e kq => by
    rw [hg] at e
    cases q : g (rs.map RV.t) with
    | none => rw [q] at e; cases e
    | some o =>
      rw [q] at e
      cases e
      exact ⟨_, o, p.rvs.rd, q, fun v H' as' n => kq v H' A1 as' (p.al n)⟩
end
end PTS

set_option linter.all false
set_option maxRecDepth 100000
/-! tests, and, or, chains, items -/
namespace PTS
open PySem L2 PT
section
variable {cl xc : Clt} {W : WX} {C : Cxt} {X : Cx}
structure TPost (cl : Clt) (Bp : Addr → Prop) (H : Hp) (σ : St) (A : List (List Addr)) (q : Bool) (env' : PT.Env) (H' : Hp) (A' : List (List Addr)) : Prop where
  rel : Rel cl Bp H' σ env' A'
  stp : Stp A.flatten H A'.flatten H'
  quiet : q = true → A' = A ∧ ∀ a u, H a = some u → H' a = some u
def TT' (cl xc : Clt) (W : WX) (q : Bool) (f : M Bool) : TT := fun σ H Q => ∃ Bp env A c env', Rel cl Bp H σ env A ∧ f env = some (c, env') ∧
  match c with
  | .ok b => ∀ H' A', TPost cl Bp H σ A q env' H' A' → Q b H'
  | .error x => ∀ cls d H' A', XPost cl xc Bp H σ A x env' cls d H' A' → W cls d σ H'
abbrev TTv (cl xc : Clt) (W : WX) (C : Cxt) (m : ME) : TT := TT' cl xc W (quiet m) (evT C m)
variable {Bp : Addr → Prop} {H H1 H2 : Hp} {σ : St} {env env1 env2 : PT.Env} {A A1 A2 : List (List Addr)}
theorem EPost.tp {q : Bool} {r : RV} {v : V} {as : List Addr} (p : EPost cl Bp H σ A q r env1 v H1 A1 as) : TPost cl Bp H σ A q env1 H1 A1 := ⟨p.rel, p.stp.less fun _ h => List.mem_append_right _ h, p.quiet⟩
theorem TPost.then {q1 q2 q : Bool} (p1 : TPost cl Bp H σ A q1 env1 H1 A1) (p2 : TPost cl Bp H1 σ A1 q2 env2 H2 A2) (hq : q = true → q1 = true ∧ q2 = true) : TPost cl Bp H σ A q env2 H2 A2 :=
  ⟨p2.rel, p1.stp.trans p2.stp, fun e => by
    obtain ⟨a, b⟩ := hq e
    obtain ⟨e1, k1⟩ := p1.quiet a
    obtain ⟨e2, k2⟩ := p2.quiet b
    exact ⟨e2.trans e1, fun a u h => k2 a u (k1 a u h)⟩⟩
theorem TPost.thenE {q1 q2 q : Bool} {r : RV} {v : V} {as : List Addr} (p1 : TPost cl Bp H σ A q1 env1 H1 A1) (p2 : EPost cl Bp H1 σ A1 q2 r env2 v H2 A2 as) (hq : q = true → q1 = true ∧ q2 = true) : EPost cl Bp H σ A q r env2 v H2 A2 as :=
  ⟨p2.rel, p2.rv, p2.sep, p2.dis, p1.stp.trans p2.stp, fun e => by
    obtain ⟨a, b⟩ := hq e
    obtain ⟨e1, k1⟩ := p1.quiet a
    obtain ⟨e2, k2⟩ := p2.quiet b
    exact ⟨e2.trans e1, fun a u h => k2 a u (k1 a u h)⟩⟩
theorem TPost.less {q q' : Bool} (p : TPost cl Bp H σ A q env1 H1 A1) (h : q' = true → q = true) : TPost cl Bp H σ A q' env1 H1 A1 := ⟨p.rel, p.stp, fun e => p.quiet (h e)⟩
theorem EPost.less {q q' : Bool} {r : RV} {v : V} {as : List Addr} (p : EPost cl Bp H σ A q r env1 v H1 A1 as) (h : q' = true → q = true) : EPost cl Bp H σ A q' r env1 v H1 A1 as := ⟨p.rel, p.rv, p.sep, p.dis, p.stp, fun e => p.quiet (h e)⟩
theorem XPost.behindT {q : Bool} {x : Ex} {env' : PT.Env} {cls : Value} {d : Option Addr} {H' : Hp} {A' : List (List Addr)} (p : TPost cl Bp H σ A q env1 H1 A1) (z : XPost cl xc Bp H1 σ A1 x env' cls d H' A') : XPost cl xc Bp H σ A x env' cls d H' A' := ⟨z.rel, p.stp.trans z.stp, z.xc⟩

theorem testE {q : Bool} {f : M RV} {Q : Bool → Hp → Prop} (h : TT' cl xc W q (truM f) σ H Q) : TM cl xc W q f σ H fun x H' => ∃ k, x = .bl k ∧ Q k H' := by
  obtain ⟨Bp, env, A, c, env', R, e, kq⟩ := h
  rcases M.bind_some e with ⟨x, e1, h1, h2⟩ | ⟨r1, env1, h1, h2⟩
  · cases h2
    exact ⟨Bp, env, A, _, _, R, h1, kq⟩
  · refine ⟨Bp, env, A, _, _, R, h1, fun v1 H1 A1 as1 p1 => ?_⟩
    have rd := p1.rv.rd
    cases t : r1.t with
    | bl k =>
      rw [t] at h2 rd
      cases h2
      exact ⟨k, rd_bl rd, kq _ _ p1.tp⟩
    | _ => rw [t] at h2; cases h2
theorem tt_val {e : Expr} {m : ME} (hm : evT C m = truM (evE C m)) (he : ∀ whole, isTrue e X.env whole = (do let v ← whole; standAt e.pos; holding [v] (truthy v))) (h : PE X e (TEv cl xc W C m)) : L2.PT X e (TTv cl xc W C m) :=
  PT'.imp (pt_val h he) fun σ H Q h => by
    have h : TT' cl xc W (quiet m) (evT C m) σ H Q := h
    rw [hm] at h
    exact testE h
theorem cmpO_eq (op : CO) (x y : RV) : ((opCmp op x.t y.t).map fun k => own (.bl k)) = (cmpO op x.t y.t).map .own := by
  unfold cmpO
  cases opCmp op x.t y.t <;> rfl
theorem tt_cmp {op : CO} {op' : CmpOp} {ea eb : Expr} {a b : ME} {pos : Pos} (ho : OpR X (compareOp op') (rB cl (cmpO op))) (hm : behindInMarks op' eb = false) (ha : PE X ea (TEv cl xc W C a)) (hb : PE X eb (TEv cl xc W C b)) : L2.PT X (.Compare ea [op'] [eb] pos) (TTv cl xc W C (.cmp op a b)) :=
  PT'.imp (pt_cmpR ho ha hb hm) fun σ H Q h => te_two (f := cmpO op) (q := quiet (.cmp op a b)) (fun e => by simpa only [quiet, Bool.and_eq_true] using e) σ H _ (by
    have q := testE (show TT' cl xc W (quiet (.cmp op a b)) (truM (evE C (.cmp op a b))) σ H Q from h)
    simpa only [evE, ev, pr, cmpO_eq] using q)
theorem tt_not {ea : Expr} {a : ME} {pos : Pos} (ha : L2.PT X ea (TTv cl xc W C a)) : L2.PT X (.UnaryOp .Not ea pos) (TTv cl xc W C (.not a)) :=
  PT'.imp (pt_not ha) fun σ H Q h => by
    obtain ⟨Bp, env, A, c, env', R, e, kq⟩ := h
    rcases M.bind_some e with ⟨x, e1, h1, h2⟩ | ⟨r1, env1, h1, h2⟩
    · cases h2
      exact ⟨Bp, env, A, _, _, R, h1, kq⟩
    · cases h2
      exact ⟨Bp, env, A, _, _, R, h1, fun H1 A1 p1 => kq H1 A1 p1⟩
theorem PW.imp {X : Cx} {e : Expr} {t t' : TT} (h : PW X e t) (k : ∀ σ H Q, t' σ H Q → t σ H Q) : PW X e t' := ⟨fun w pins s σ H Q I q => h.run w pins s σ H Q I (k σ H Q q)⟩
theorem tw_and {ea eb : Expr} {rest : List Expr} {a b : ME} {pos : Pos} (ha : L2.PT X ea (TTv cl xc W C a)) (hb : PW X (.BoolOp .And (eb :: rest) pos) (TTv cl xc W C b)) : PW X (.BoolOp .And (ea :: eb :: rest) pos) (TTv cl xc W C (.and a b)) :=
  PW.imp (pw_and ha hb) fun σ H Q h => by
    obtain ⟨Bp, env, A, c, env', R, e, kq⟩ := h
    rcases M.bind_some e with ⟨x, e1, h1, h2⟩ | ⟨k, env1, h1, h2⟩
    · cases h2
      exact ⟨Bp, env, A, _, _, R, h1, kq⟩
    · refine ⟨Bp, env, A, _, _, R, h1, fun H1 A1 p1 => ?_⟩
      cases k with
      | true =>
        simp only [if_true] at h2 ⊢
        refine ⟨Bp, env1, A1, c, env', p1.rel, h2, ?_⟩
        cases c with
        | ok b => exact fun H2 A2 p2 => kq H2 A2 (p1.then p2 fun e => by simpa only [quiet, Bool.and_eq_true] using e)
        | error x => exact fun cls d H' A' z => kq cls d H' A' (z.behindT p1)
      | false =>
        simp only [Bool.false_eq_true, if_false] at h2 ⊢
        cases h2
        exact kq H1 A1 (p1.less fun e => by simp only [quiet, Bool.and_eq_true] at e; exact e.1)
theorem tw_or {ea eb : Expr} {rest : List Expr} {a b : ME} {pos : Pos} (ha : L2.PT X ea (TTv cl xc W C a)) (hb : PW X (.BoolOp .Or (eb :: rest) pos) (TTv cl xc W C b)) : PW X (.BoolOp .Or (ea :: eb :: rest) pos) (TTv cl xc W C (.or a b)) :=
  PW.imp (pw_or ha hb) fun σ H Q h => by
    obtain ⟨Bp, env, A, c, env', R, e, kq⟩ := h
    rcases M.bind_some e with ⟨x, e1, h1, h2⟩ | ⟨k, env1, h1, h2⟩
    · cases h2
      exact ⟨Bp, env, A, _, _, R, h1, kq⟩
    · refine ⟨Bp, env, A, _, _, R, h1, fun H1 A1 p1 => ?_⟩
      cases k with
      | false =>
        simp only [Bool.false_eq_true, if_false] at h2 ⊢
        refine ⟨Bp, env1, A1, c, env', p1.rel, h2, ?_⟩
        cases c with
        | ok b => exact fun H2 A2 p2 => kq H2 A2 (p1.then p2 fun e => by simpa only [quiet, Bool.and_eq_true] using e)
        | error x => exact fun cls d H' A' z => kq cls d H' A' (z.behindT p1)
      | true =>
        simp only [if_true] at h2 ⊢
        cases h2
        exact kq H1 A1 (p1.less fun e => by simp only [quiet, Bool.and_eq_true] at e; exact e.1)
theorem tw_one {op : PySem.BoolOp} {ea : Expr} {a : ME} {pos : Pos} (ha : L2.PT X ea (TTv cl xc W C a)) : PW X (.BoolOp op [ea] pos) (TTv cl xc W C a) := by
  cases op with
  | And => exact pw_and1 ha
  | Or => exact pw_or1 ha
/-! as values -/
theorem te_and {ea eb : Expr} {rest : List Expr} {a b : ME} {pos : Pos} (ha : PE X ea (TEv cl xc W C a)) (hb : PE X (.BoolOp .And (eb :: rest) pos) (TEv cl xc W C b)) : PE X (.BoolOp .And (ea :: eb :: rest) pos) (TEv cl xc W C (.and a b)) :=
  PE.imp (pe_and ha hb) fun σ H Q h => by
    obtain ⟨Bp, env, A, c, env', R, e, kq⟩ := h
    rcases M.bind_some e with ⟨x, e1, h1, h2⟩ | ⟨r1, env1, h1, h2⟩
    · cases h2
      exact ⟨Bp, env, A, _, _, R, h1, kq⟩
    · refine ⟨Bp, env, A, _, _, R, h1, fun v1 H1 A1 as1 p1 => ?_⟩
      have rd := p1.rv.rd
      cases t : r1.t with
      | bl k =>
        rw [t] at h2 rd
        refine ⟨k, rd_bl rd, ?_⟩
        cases k with
        | true =>
          simp only [if_true] at h2 ⊢
          refine ⟨Bp, env1, A1, c, env', p1.rel, h2, ?_⟩
          cases c with
          | ok r => exact fun v2 H2 A2 as2 p2 => kq v2 H2 A2 as2 (p1.then p2 fun e => by simpa only [quiet, Bool.and_eq_true] using e)
          | error x => exact fun cls d H' A' z => kq cls d H' A' (z.behind p1)
        | false =>
          simp only [Bool.false_eq_true, if_false] at h2 ⊢
          cases h2
          exact kq _ _ A1 [] (p1.then (p1.rel.same (t := .bl false) (by simp only [RepF])) fun e => by simp only [quiet, Bool.and_eq_true] at e; exact ⟨e.1, rfl⟩)
      | _ => rw [t] at h2; cases h2
theorem te_or {ea eb : Expr} {rest : List Expr} {a b : ME} {pos : Pos} (ha : PE X ea (TEv cl xc W C a)) (hb : PE X (.BoolOp .Or (eb :: rest) pos) (TEv cl xc W C b)) : PE X (.BoolOp .Or (ea :: eb :: rest) pos) (TEv cl xc W C (.or a b)) :=
  PE.imp (pe_or ha hb) fun σ H Q h => by
    obtain ⟨Bp, env, A, c, env', R, e, kq⟩ := h
    rcases M.bind_some e with ⟨x, e1, h1, h2⟩ | ⟨r1, env1, h1, h2⟩
    · cases h2
      exact ⟨Bp, env, A, _, _, R, h1, kq⟩
    · refine ⟨Bp, env, A, _, _, R, h1, fun v1 H1 A1 as1 p1 => ?_⟩
      have rd := p1.rv.rd
      cases t : r1.t with
      | bl k =>
        rw [t] at h2 rd
        refine ⟨k, rd_bl rd, ?_⟩
        cases k with
        | false =>
          simp only [Bool.false_eq_true, if_false] at h2 ⊢
          refine ⟨Bp, env1, A1, c, env', p1.rel, h2, ?_⟩
          cases c with
          | ok r => exact fun v2 H2 A2 as2 p2 => kq v2 H2 A2 as2 (p1.then p2 fun e => by simpa only [quiet, Bool.and_eq_true] using e)
          | error x => exact fun cls d H' A' z => kq cls d H' A' (z.behind p1)
        | true =>
          simp only [if_true] at h2 ⊢
          cases h2
          exact kq _ _ A1 [] (p1.then (p1.rel.same (t := .bl true) (by simp only [RepF])) fun e => by simp only [quiet, Bool.and_eq_true] at e; exact ⟨e.1, rfl⟩)
      | _ => rw [t] at h2; cases h2
theorem te_not {ea : Expr} {a : ME} {pos : Pos} (ha : PE X ea (TEv cl xc W C a)) : PE X (.UnaryOp .Not ea pos) (TEv cl xc W C (.not a)) :=
  PE.imp (pe_not ha) fun σ H Q h => by
    obtain ⟨Bp, env, A, c, env', R, e, kq⟩ := h
    rcases M.bind_some e with ⟨x, e1, h1, h2⟩ | ⟨r1, env1, h1, h2⟩
    · cases h2
      exact ⟨Bp, env, A, _, _, R, h1, kq⟩
    · refine ⟨Bp, env, A, _, _, R, h1, fun v1 H1 A1 as1 p1 => ?_⟩
      have rd := p1.rv.rd
      cases t : r1.t with
      | bl k =>
        rw [t] at h2 rd
        cases h2
        exact ⟨k, rd_bl rd, kq _ _ A1 [] (p1.then (p1.rel.same (t := .bl (!k)) (by simp only [RepF])) fun e => ⟨e, rfl⟩)⟩
      | _ => rw [t] at h2; cases h2
theorem te_neg {ea : Expr} {a : ME} {pos : Pos} (ha : PE X ea (TEv cl xc W C a)) : PE X (.UnaryOp .USub ea pos) (TEv cl xc W C (.neg a)) :=
  PE.imp (pe_un un_neg ha) fun σ H Q h => by
    obtain ⟨Bp, env, A, c, env', R, e, kq⟩ := h
    rcases M.bind_some e with ⟨x, e1, h1, h2⟩ | ⟨r1, env1, h1, h2⟩
    · cases h2
      exact ⟨Bp, env, A, _, _, R, h1, kq⟩
    · refine ⟨Bp, env, A, _, _, R, h1, fun v1 H1 A1 as1 p1 => ?_⟩
      have rd := p1.rv.rd
      cases t : r1.t with
      | int i =>
        rw [t] at h2 rd
        cases h2
        exact ⟨i, rd_int rd, kq _ _ A1 [] (p1.then (p1.rel.same (t := .int (-i)) (by simp only [RepF])) fun e => ⟨e, rfl⟩)⟩
      | _ => rw [t] at h2; cases h2
theorem te_one {op : PySem.BoolOp} {ea : Expr} {a : ME} {pos : Pos} (ha : PE X ea (TEv cl xc W C a)) : PE X (.BoolOp op [ea] pos) (TEv cl xc W C a) := pe_one ha
theorem te_ite {ec ea eb : Expr} {c a b : ME} {pos : Pos} (hc : L2.PT X ec (TTv cl xc W C c)) (ha : PE X ea (TEv cl xc W C a)) (hb : PE X eb (TEv cl xc W C b)) : PE X (.IfExp ec ea eb pos) (TEv cl xc W C (.ite c a b)) :=
  PE.imp (pe_ifExp hc ha hb) fun σ H Q h => by
    obtain ⟨Bp, env, A, c, env', R, e, kq⟩ := h
    rcases M.bind_some e with ⟨x, e1, h1, h2⟩ | ⟨k, env1, h1, h2⟩
    · cases h2
      exact ⟨Bp, env, A, _, _, R, h1, kq⟩
    · refine ⟨Bp, env, A, _, _, R, h1, fun H1 A1 p1 => ?_⟩
      cases k with
      | true =>
        simp only [if_true] at h2 ⊢
        refine ⟨Bp, env1, A1, c, env', p1.rel, h2, ?_⟩
        cases c with
        | ok r => exact fun v2 H2 A2 as2 p2 => kq v2 H2 A2 as2 (p1.thenE p2 fun e => by simp only [quiet, Bool.and_eq_true] at e; exact ⟨e.1.1, e.1.2⟩)
        | error x => exact fun cls d H' A' z => kq cls d H' A' (z.behindT p1)
      | false =>
        simp only [Bool.false_eq_true, if_false] at h2 ⊢
        refine ⟨Bp, env1, A1, c, env', p1.rel, h2, ?_⟩
        cases c with
        | ok r => exact fun v2 H2 A2 as2 p2 => kq v2 H2 A2 as2 (p1.thenE p2 fun e => by simp only [quiet, Bool.and_eq_true] at e; exact ⟨e.1.1, e.2⟩)
        | error x => exact fun cls d H' A' z => kq cls d H' A' (z.behindT p1)
/-! a chain of two comparisons -/
theorem chainR {op op2 : CO} {a b c : ME} {Q : VK} (h : TEv cl xc W C (.chain op op2 a b c) σ H Q) : tChain (rB cl (cmpO op)) (rB cl (cmpO op2)) (TEv cl xc W C a) (TEv cl xc W C b) (TEv cl xc W C c) σ H Q := by
  obtain ⟨Bp, env, A, c', env', R, e, kq⟩ := h
  have hq : quiet (.chain op op2 a b c) = true → (quiet a = true ∧ quiet b = true) ∧ quiet c = true := fun e => by simpa only [quiet, Bool.and_eq_true] using e
  rcases M.bind_some e with ⟨x, e1, h1, h2⟩ | ⟨r1, env1, h1, h2⟩
  · cases h2
    exact ⟨Bp, env, A, _, _, R, h1, kq⟩
  · refine ⟨Bp, env, A, _, _, R, h1, fun v1 H1 A1 as1 p1 => ?_⟩
    cases hb : r1.isBor && !quiet b with
    | true => rw [hb] at h2; simp [M.stuck] at h2
    | false =>
      rw [hb] at h2
      simp only [Bool.false_eq_true, if_false] at h2
      rcases M.bind_some h2 with ⟨x, e2, g1, g2⟩ | ⟨r2, env2, g1, g2⟩
      · cases g2
        exact ⟨Bp, env1, A1, _, _, p1.rel, g1, fun cls d H' A' z => kq cls d H' A' (z.behind p1)⟩
      · refine ⟨Bp, env1, A1, _, _, p1.rel, g1, fun v2 H2 A2 as2 p2 => ?_⟩
        cases ek : opCmp op r1.t r2.t with
        | none => rw [ek] at g2; simp [M.lift, M.bind] at g2
        | some k =>
          rw [ek] at g2
          simp only [M.lift, M.bind, Option.map_some] at g2
          refine ⟨_, _, .fz (.bl k), (p1.held p2 hb).rd, p2.rv.rd, by unfold cmpO; rw [ek]; rfl, fun v H3 as n => ?_⟩
          obtain ⟨e0, rf⟩ := RepO.fzF (m := .own) n.rep
          simp only [RepF] at rf
          refine ⟨k, rf, ?_⟩
          subst e0
          have p3 := p2.rel.new n
          have k2 : RvOk cl Bp H3 A2 v2 r2 as2 := by
            have z := p2.rv
            cases r2 with
            | own o => exact RepO.keep z (fun _ _ h _ => n.all _ _ h) fun _ _ _ h => n.all _ _ h
            | bor i o =>
              obtain ⟨z1, bs, z2⟩ := z
              exact ⟨z1, bs, z2.keepB (fun _ _ h _ => n.all _ _ h) fun _ _ _ h => n.all _ _ h⟩
          have p2' : EPost cl Bp H1 σ A1 (quiet b) r2 env2 v2 H3 A2 as2 := ⟨p3.rel, k2, p2.sep, p2.dis, ⟨fun a u h m => n.all a u (p2.stp.keep a u h m), p2.stp.fresh⟩, fun e => by
            obtain ⟨e1, z⟩ := p2.quiet e
            exact ⟨e1, fun a u h => n.all a u (z a u h)⟩⟩
          cases k with
          | false =>
            simp only [Bool.false_eq_true, if_false] at g2 ⊢
            cases g2
            exact kq _ _ A2 [] (p1.then (p2'.then (p3.rel.same (t := .bl false) (by simp only [RepF])) (q := quiet b) fun e => ⟨e, rfl⟩) fun e => (hq e).1)
          | true =>
            simp only [if_true] at g2 ⊢
            cases hc : r2.isBor && !quiet c with
            | true => rw [hc] at g2; simp [M.stuck] at g2
            | false =>
              rw [hc] at g2
              simp only [Bool.false_eq_true, if_false] at g2
              rcases M.bind_some g2 with ⟨x, e2, f1, f2⟩ | ⟨r3, env3, f1, f2⟩
              · cases f2
                exact ⟨Bp, env2, A2, _, _, p3.rel, f1, fun cls d H' A' z => kq cls d H' A' ((z.behind p2').behind p1)⟩
              · refine ⟨Bp, env2, A2, _, _, p3.rel, f1, fun v3 H4 A4 as3 p4 => ?_⟩
                cases el : opCmp op2 r2.t r3.t with
                | none => rw [el] at f2; simp [M.lift] at f2
                | some l =>
                  rw [el] at f2
                  simp only [M.lift, Option.map_some, Option.some.injEq, Prod.mk.injEq] at f2
                  obtain ⟨rfl, rfl⟩ := f2
                  exact ⟨_, _, .fz (.bl l), (p2'.held p4 hc).rd, p4.rv.rd, by unfold cmpO; rw [el]; rfl, fun v H5 as' n' => kq v H5 A4 as' (p1.then (p2'.then (p4.then (p4.rel.new n') (q := quiet c) fun e => ⟨e, rfl⟩) (q := quiet b && quiet c) fun e => by simpa using e) fun e => ⟨(hq e).1.1, by simp [(hq e).1.2, (hq e).2]⟩)⟩
theorem te_chain {op op2 : CO} {a b c : ME} {op' op2' : CmpOp} {ea eb ec : Expr} {pos : Pos} (ho : OpR X (compareOp op') (rB cl (cmpO op))) (ho2 : OpR X (compareOp op2') (rB cl (cmpO op2))) (hm : lastMarks [op', op2'] [eb, ec] = false)
    (ha : PE X ea (TEv cl xc W C a)) (hb : PE X eb (TEv cl xc W C b)) (hc : PE X ec (TEv cl xc W C c)) : PE X (.Compare ea [op', op2'] [eb, ec] pos) (TEv cl xc W C (.chain op op2 a b c)) :=
  PE.imp (pe_chain ho ho2 ha hb hc hm) fun σ H Q h => chainR h
theorem tt_chain {op op2 : CO} {a b c : ME} {op' op2' : CmpOp} {ea eb ec : Expr} {pos : Pos} (ho : OpR X (compareOp op') (rB cl (cmpO op))) (ho2 : OpR X (compareOp op2') (rB cl (cmpO op2))) (hm : lastMarks [op', op2'] [eb, ec] = false)
    (ha : PE X ea (TEv cl xc W C a)) (hb : PE X eb (TEv cl xc W C b)) (hc : PE X ec (TEv cl xc W C c)) : L2.PT X (.Compare ea [op', op2'] [eb, ec] pos) (TTv cl xc W C (.chain op op2 a b c)) :=
  PT'.imp (pt_chain ho ho2 ha hb hc hm) fun σ H Q h => chainR (testE (show TT' cl xc W (quiet (.chain op op2 a b c)) (truM (evE C (.chain op op2 a b c))) σ H Q from h))
end
end PTS

set_option linter.all false
set_option maxRecDepth 100000
/-! items, slices -/
namespace PTS
open PySem L2 PT
theorem k1K_inj {a b : K1} (h : k1K a = k1K b) : a = b := by
  cases a <;> cases b <;> simp only [k1K] at h
  · rw [Sum.inl.inj h]
  · cases h
  · cases h
  · rw [tS_inj (Sum.inr.inj h)]
theorem k1Ks_inj : ∀ {a b : List K1}, a.map k1K = b.map k1K → a = b
  | [], [], _ => rfl
  | x :: a, y :: b, h => by
    simp only [List.map_cons, List.cons.injEq] at h
    rw [k1K_inj h.1, k1Ks_inj h.2]
  | [], _ :: _, h => by simp at h
  | _ :: _, [], h => by simp at h
theorem atIx_eq {α : Type} (xs : List α) (i : Int) : atIx xs i = atI xs i := by
  unfold atIx atI ixN
  by_cases h : 0 ≤ i
  · rw [if_pos h, if_pos h]
    by_cases h1 : i < xs.length
    · rw [if_pos h1]; rfl
    · rw [if_neg h1, List.getElem?_eq_none (by omega)]; rfl
  · rw [if_neg h, if_neg h]
    by_cases h1 : -(xs.length : Int) ≤ i
    · rw [if_pos h1, if_pos (by omega)]; rfl
    · rw [if_neg h1, if_neg (by omega)]; rfl
theorem atI_len {α β : Type} {xs : List α} {ys : List β} (h : xs.length = ys.length) {i : Int} {x : α} (e : atI xs i = some x) : ∃ j : Nat, xs[j]? = some x ∧ ∀ y, ys[j]? = some y → atI ys i = some y := by
  unfold atI at e ⊢
  rw [← h]
  cases q : ixN xs.length i with
  | none => rw [q] at e; cases e
  | some j => rw [q] at e; exact ⟨j, e, fun y hy => hy⟩
section
variable {cl xc : Clt} {W : WX} {C : Cxt} {X : Cx}
theorem RepFs.nth {H : Hp} : ∀ {vs : List V} {ts : List PV} {j : Nat} {t : PV}, RepFs cl H vs ts → ts[j]? = some t → ∃ v, vs[j]? = some v ∧ RepF cl H v t
  | v :: vs, t :: ts, 0, u, h, e => by
    simp only [RepFs] at h
    simp only [List.getElem?_cons_zero, Option.some.injEq] at e
    subst e
    exact ⟨v, rfl, h.1⟩
  | v :: vs, t :: ts, j + 1, u, h, e => by
    simp only [RepFs] at h
    simp only [List.getElem?_cons_succ] at e
    obtain ⟨w, e1, r⟩ := RepFs.nth h.2 e
    exact ⟨w, by simpa using e1, r⟩
  | _, [], j, u, h, e => by simp at e
  | [], _ :: _, j, u, h, e => by simp [RepFs] at h
theorem RepOs.nth {m : Md} {H : Hp} : ∀ {vs : List V} {ts : List OV} {as : List Addr} {j : Nat} {t : OV}, RepOs cl m H vs ts as → ts[j]? = some t → ∃ v b, vs[j]? = some v ∧ RepO cl m H v t b ∧ b.Sublist as
  | v :: vs, t :: ts, as, 0, u, h, e => by
    simp only [RepOs] at h
    obtain ⟨b, c, e1, h1, h2⟩ := h
    simp only [List.getElem?_cons_zero, Option.some.injEq] at e
    subst e
    exact ⟨v, b, rfl, h1, by rw [e1]; exact List.sublist_append_left _ _⟩
  | v :: vs, t :: ts, as, j + 1, u, h, e => by
    simp only [RepOs] at h
    obtain ⟨b, c, e1, h1, h2⟩ := h
    simp only [List.getElem?_cons_succ] at e
    obtain ⟨w, b', q1, r, q2⟩ := RepOs.nth h2 e
    exact ⟨w, b', by simpa using q1, r, by rw [e1]; exact q2.trans (List.sublist_append_right _ _)⟩
  | _, [], as, j, u, h, e => by simp at e
  | [], _ :: _, as, j, u, h, e => by simp [RepOs] at h
theorem RepFk.get {H : Hp} {k : K1} : ∀ {ks : List (Key × V)} {kvs : List (Ky × PV)} {t : PV}, RepFk cl H ks kvs → kvs.lookup (.one k) = some t → ∃ v, valV ks (k1K k) = some v ∧ RepF cl H v t
  | p :: ks, (q, x) :: kvs, t, h, e => by
    simp only [RepFk] at h
    obtain ⟨h0, h1, h2⟩ := h
    simp only [List.lookup_cons] at e
    cases q with
    | tup as => exact absurd h0 (by simp [KyK])
    | one a =>
      simp only [KyK] at h0
      by_cases hk : k = a
      · subst hk
        simp only [BEq.rfl, Option.some.injEq] at e
        subst e
        exact ⟨p.2, valV_pos h0, h1⟩
      · have : ((Ky.one k) == Ky.one a) = false := by simpa using hk
        rw [this] at e
        obtain ⟨v, z, r⟩ := RepFk.get h2 e
        exact ⟨v, by rw [valV_neg (by rw [h0]; exact fun z => hk (k1K_inj z).symm)]; exact z, r⟩
  | [], [], t, h, e => by simp at e
  | [], _ :: _, t, h, e => by simp [RepFk] at h
  | _ :: _, [], t, h, e => by simp at e
theorem RepFt.get {H : Hp} {k : List K1} : ∀ {ks : List (List Key × V)} {kvs : List (Ky × PV)} {t : PV}, RepFt cl H ks kvs → kvs.lookup (.tup k) = some t → ∃ v, valV ks (k.map k1K) = some v ∧ RepF cl H v t
  | p :: ks, (q, x) :: kvs, t, h, e => by
    simp only [RepFt] at h
    obtain ⟨h0, h1, h2⟩ := h
    simp only [List.lookup_cons] at e
    cases q with
    | one as => exact absurd h0 (by simp [KyT])
    | tup a =>
      simp only [KyT] at h0
      by_cases hk : k = a
      · subst hk
        simp only [BEq.rfl, Option.some.injEq] at e
        subst e
        exact ⟨p.2, valV_pos h0, h1⟩
      · have : ((Ky.tup k) == Ky.tup a) = false := by simpa using hk
        rw [this] at e
        obtain ⟨v, z, r⟩ := RepFt.get h2 e
        exact ⟨v, by rw [valV_neg (by rw [h0]; exact fun z => hk (k1Ks_inj z).symm)]; exact z, r⟩
  | [], [], t, h, e => by simp at e
  | [], _ :: _, t, h, e => by simp [RepFt] at h
  | _ :: _, [], t, h, e => by simp at e
/-- the other way: a key that isn't there -/
theorem RepFk.none {H : Hp} {k : K1} : ∀ {ks : List (Key × V)} {kvs : List (Ky × PV)}, RepFk cl H ks kvs → kvs.lookup (.one k) = none → valV ks (k1K k) = none
  | p :: ks, (q, x) :: kvs, h, e => by
    simp only [RepFk] at h
    obtain ⟨h0, h1, h2⟩ := h
    simp only [List.lookup_cons] at e
    cases q with
    | tup as => exact absurd h0 (by simp [KyK])
    | one a =>
      simp only [KyK] at h0
      by_cases hk : k = a
      · subst hk
        simp at e
      · have : ((Ky.one k) == Ky.one a) = false := by simpa using hk
        rw [this] at e
        rw [valV_neg (by rw [h0]; exact fun z => hk (k1K_inj z).symm)]
        exact RepFk.none h2 e
  | [], [], h, e => rfl
  | [], _ :: _, h, e => by simp [RepFk] at h
  | _ :: _, [], h, e => by simp [RepFk] at h
theorem rdts_key {H : Hp} : ∀ {vs : List V} {xs : List PV} {as : List K1}, RdTs cl H vs xs → k1s xs = some as → vs = (as.map k1K).map kV
  | [], [], as, h, e => by cases e; rfl
  | v :: vs, x :: xs, as, h, e => by
    simp only [RdTs] at h
    simp only [k1s] at e
    cases q : x.k1 with
    | none => rw [q] at e; cases e
    | some a =>
      cases q2 : k1s xs with
      | none => rw [q, q2] at e; cases e
      | some bs =>
        rw [q, q2] at e
        cases e
        have ih := rdts_key h.2 q2
        cases x <;> simp only [PV.k1] at q <;> cases q
        · simp only [List.map_cons, k1K, kV, rd_int h.1, ih]
        · simp only [List.map_cons, k1K, kV, rd_str h.1, ih]
  | [], _ :: _, as, h, e => by simp [RdTs] at h
  | _ :: _, [], as, h, e => by simp [RdTs] at h
/-- a key's value -/
theorem rd_key {H : Hp} {v : V} {t : PV} {q : Ky} (h : RdT cl H v t) (e : t.key = some q) : (∃ a, q = .one a ∧ v = kV (k1K a)) ∨ ∃ as b, q = .tup as ∧ v = .ref b ∧ H b = some (.tup ((as.map k1K).map kV)) := by
  cases t <;> simp only [PV.key, PV.k1] at e <;> try cases e
  · exact .inl ⟨_, rfl, rd_int h⟩
  · exact .inl ⟨_, rfl, rd_str h⟩
  · rename_i xs
    cases q2 : k1s xs with
    | none => rw [q2] at e; cases e
    | some as =>
      rw [q2] at e
      cases e
      simp only [RdT] at h
      obtain ⟨b, vs, rfl, h1, h2⟩ := h
      exact .inr ⟨as, b, rfl, rfl, by rw [← rdts_key h2 q2]; exact h1⟩
/-- d[k], frozen -/
theorem RepF.dget {H : Hp} {v w : V} {kvs : List (Ky × PV)} {t x : PV} {q : Ky} (h : RepF cl H v (.dic kvs)) (hk : RdT cl H w t) (e : t.key = some q) (l : kvs.lookup q = some x) : ∃ a y, v = .ref a ∧ DGet H a w (some y) ∧ RepF cl H y x := by
  simp only [RepF] at h
  obtain ⟨a, o, rfl, h⟩ := h
  rcases rd_key hk e with ⟨k, rfl, rfl⟩ | ⟨as, b, rfl, rfl, hb⟩
  · rcases h with ⟨ks, h1, h2⟩ | ⟨ks, h1, h2⟩
    · obtain ⟨y, z, r⟩ := RepFk.get h2 l
      exact ⟨a, y, rfl, .inl ⟨ks, _, .inr ⟨o, h1⟩, rfl, z.symm⟩, r⟩
    · exfalso
      clear h1 hk
      induction kvs generalizing ks with
      | nil => simp at l
      | cons p kvs ih =>
        cases ks with
        | nil => simp [RepFt] at h2
        | cons s ks =>
          obtain ⟨q, y⟩ := p
          simp only [RepFt] at h2
          cases q with
          | one _ => exact h2.1.elim
          | tup _ =>
            simp only [List.lookup_cons] at l
            have : ((Ky.one k) == Ky.tup ‹_›) = false := by simp
            rw [this] at l
            exact ih l ks h2.2.2
  · rcases h with ⟨ks, h1, h2⟩ | ⟨ks, h1, h2⟩
    · exfalso
      clear h1 hk
      induction kvs generalizing ks with
      | nil => simp at l
      | cons p kvs ih =>
        cases ks with
        | nil => simp [RepFk] at h2
        | cons s ks =>
          obtain ⟨q, y⟩ := p
          simp only [RepFk] at h2
          cases q with
          | tup _ => exact h2.1.elim
          | one _ =>
            simp only [List.lookup_cons] at l
            have : ((Ky.tup as) == Ky.one ‹_›) = false := by simp
            rw [this] at l
            exact ih l ks h2.2.2
    · obtain ⟨y, z, r⟩ := RepFt.get h2 l
      exact ⟨a, y, rfl, .inr ⟨ks, _, b, .inr ⟨o, h1⟩, rfl, hb, z.symm⟩, r⟩
theorem borOk {Bp : Addr → Prop} {H : Hp} {A : List (List Addr)} {v : V} {j : Nat} {o : OV} {bs : List Addr} (h : RepO cl (.bor fun a => a ∈ A.getD j [] ∨ Bp a) H v o bs) : RvOk cl Bp H A v (mkBor j o) [] := by
  cases o with
  | fz t =>
    simp only [mkBor, RvOk, RepO]
    exact ⟨trivial, h.fzF.2⟩
  | lst xs => exact ⟨rfl, bs, h⟩
  | tup xs => exact ⟨rfl, bs, h⟩
  | dic T xs => exact ⟨rfl, bs, h⟩
  | ins c xs => exact ⟨rfl, bs, h⟩
/-- a part of a temporary, or of what is borrowed, behind another thing -/
theorem EPost.part {Bp : Addr → Prop} {H H1 H2 : Hp} {σ : St} {A A1 A2 : List (List Addr)} {q1 q2 q : Bool} {r1 r2 r : RV} {env1 env2 : PT.Env} {v1 v2 v : V} {as1 as2 b : List Addr}
    (p1 : EPost cl Bp H σ A q1 r1 env1 v1 H1 A1 as1) (p2 : EPost cl Bp H1 σ A1 q2 r2 env2 v2 H2 A2 as2) (hq : q = true → q1 = true ∧ q2 = true) (hb : b.Sublist as1) (hr : RvOk cl Bp H2 A2 v r b) : EPost cl Bp H σ A q r env2 v H2 A2 b := by
  have s1 := List.nodup_append.mp p1.sep
  refine ⟨p2.rel, hr, ?_, fun a h => p1.dis a (hb.subset h), ?_, (p1.then p2 hq).quiet⟩
  · exact List.nodup_append.mpr ⟨s1.1.sublist hb, p2.rel.nd, fun a h c hc e => p1.apart p2 a (hb.subset h) (e ▸ List.mem_append_right _ hc)⟩
  · have st := (p1.stp.less fun _ h => List.mem_append_right _ h).trans p2.stp
    refine ⟨st.keep, fun a h => ?_⟩
    rcases List.mem_append.mp h with h | h
    · exact p1.stp.fresh a (List.mem_append_left _ (hb.subset h))
    · exact st.fresh a (List.mem_append_right _ h)

theorem ix_all : IxR X (fun x y H Q => (rIxL X.K x y H Q ∨ rIxT X.K x y H Q) ∨ rIxS x y H Q) := (ix_list.or ix_tup).or ix_str
def isDic : PV → Bool
  | .dic _ => true
  | _ => false
/-- the second operand behind the first, whose answer is known -/
theorem twoAt {a b : ME} {f : RV → RV → Option RV} {q : Bool} (hq : q = true → quiet a = true ∧ quiet b = true) {σ : St} {H : Hp} {Q : VK} {R2 : V → V → Hp → Prop} {Bp : Addr → Prop} {env env1 env' : PT.Env} {A : List (List Addr)} {r1 : RV} {c : Except Ex RV}
    (R : Rel cl Bp H σ env A)(kq : match c with | .ok r => ∀ v H' A' as, EPost cl Bp H σ A q r env' v H' A' as → Q v H' | .error x => ∀ cls d H' A', XPost cl xc Bp H σ A x env' cls d H' A' → W cls d σ H') (h1 : evE C a env = some (.ok r1, env1)) (h2 : (if r1.isBor && !quiet b then M.stuck else M.bind (evE C b) fun y => M.lift (f r1 y)) env1 = some (c, env'))
    (k : ∀ {H1 H2 : Hp} {A1 A2 : List (List Addr)} {r2 r : RV} {env2 : PT.Env} {v1 v2 : V} {as1 as2 : List Addr}, EPost cl Bp H σ A (quiet a) r1 env1 v1 H1 A1 as1 → EPost cl Bp H1 σ A1 (quiet b) r2 env2 v2 H2 A2 as2 → RvOk cl Bp H2 A2 v1 r1 as1 → f r1 r2 = some r →
      (∀ v H' A' as, EPost cl Bp H σ A q r env2 v H' A' as → Q v H') → R2 v1 v2 H2) :
    TEv cl xc W C a σ H fun v1 H1 => TEv cl xc W C b σ H1 fun v2 H2 => R2 v1 v2 H2 := by
  refine ⟨Bp, env, A, _, _, R, h1, fun v1 H1 A1 as1 p1 => ?_⟩
  cases hb : r1.isBor && !quiet b with
  | true => rw [hb] at h2; simp [M.stuck] at h2
  | false =>
    rw [hb] at h2
    simp only [Bool.false_eq_true, if_false] at h2
    rcases M.bind_some h2 with ⟨x, e2, g1, g2⟩ | ⟨r2, env2, g1, g2⟩
    · cases g2
      exact ⟨Bp, env1, A1, _, _, p1.rel, g1, fun cls d H' A' z => kq cls d H' A' (z.behind p1)⟩
    · refine ⟨Bp, env1, A1, _, _, p1.rel, g1, fun v2 H2 A2 as2 p2 => ?_⟩
      unfold M.lift at g2
      cases er : f r1 r2 with
      | none => rw [er] at g2; simp at g2
      | some r =>
        rw [er] at g2
        simp only [Option.map_some, Option.some.injEq, Prod.mk.injEq] at g2
        obtain ⟨rfl, rfl⟩ := g2
        exact k p1 p2 (p1.held p2 hb) er kq
theorem map_some' {α β : Type} {f : α → β} {o : Option α} {b : β} (h : o.map f = some b) : ∃ a, o = some a ∧ f a = b := by
  cases o with
  | none => cases h
  | some a => exact ⟨a, rfl, Option.some.inj h⟩
theorem te_sub {ea eb : Expr} {a b : ME} {pos : Pos} (hu : X.A.units + 1 < cLine) (hs : PlainIx eb) (ha : PE X ea (TEv cl xc W C a)) (hb : PE X eb (TEv cl xc W C b)) : PE X (.Subscript ea eb pos) (TEv cl xc W C (.sub a b)) := by
  refine PE.imp (PE.or (pe_ix ix_all ha hb hs) (pe_dget hu ha hb fun o i => hs o i)) fun σ H Q h => ?_
  have hq : quiet (.sub a b) = true → quiet a = true ∧ quiet b = true := fun e => by simpa only [quiet, Bool.and_eq_true] using e
  obtain ⟨Bp, env, A, c, env', R, e, kq⟩ := h
  rcases M.bind_some e with ⟨x, e1, h1, h2⟩ | ⟨r1, env1, h1, h2⟩
  · cases h2
    exact .inl ⟨Bp, env, A, _, _, R, h1, kq⟩
  · have dic : ∀ (kvs : List (Ky × PV)), r1 = own (.dic kvs) → tDGet (TEv cl xc W C a) (TEv cl xc W C b) σ H Q := fun kvs e1 => by
      subst e1
      refine twoAt (f := fun x y => subRV x y.t) hq R kq h1 h2 fun {H1 H2 A1 A2 r2 r env2 v1 v2 as1 as2} p1 p2 ho er kq => ?_
      have er : (match r2.t.key with | some q => (kvs.lookup q).map own | none => none) = some r := er
      cases ek : r2.t.key with
      | none => rw [ek] at er; cases er
      | some q =>
        rw [ek] at er
        obtain ⟨t, el, rfl⟩ := map_some' er
        obtain ⟨p, y, rfl, g, ry⟩ := (RepO.fzF (m := .own) ho).2.dget p2.rv.rd ek el
        exact ⟨p, y, rfl, g, kq y H2 A2 [] (p1.part p2 hq (List.nil_sublist _) (by simp only [own, RvOk, RepO]; exact ⟨trivial, ry⟩))⟩
    have lst : (∀ kvs, r1 ≠ own (.dic kvs)) → (∀ T kvs, r1 ≠ .own (.dic T kvs)) → (∀ j T kvs, r1 ≠ .bor j (.dic T kvs)) → tOp (fun x y H Q => (rIxL X.K x y H Q ∨ rIxT X.K x y H Q) ∨ rIxS x y H Q) (TEv cl xc W C a) (TEv cl xc W C b) σ H Q := fun n1 n2 n3 => by
      refine twoAt (f := fun x y => subRV x y.t) hq R kq h1 h2 fun {H1 H2 A1 A2 r2 r env2 v1 v2 as1 as2} p1 p2 ho er kq => ?_
      have rd := p2.rv.rd
      have fz : ∀ {t : PV} {y : V}, RepF cl H2 y t → r = own t → Q y H2 := fun {t y} ry e => kq y H2 A2 [] (p1.part p2 hq (List.nil_sublist _) (by rw [e]; simp only [own, RvOk, RepO]; exact ⟨trivial, ry⟩))
      cases r1 with
      | own o =>
        cases o with
        | fz t =>
          have rf := (RepO.fzF (m := .own) ho).2
          cases t with
          | lst xs =>
            cases ti : r2.t <;> rw [ti] at er <;> simp only [subRV] at er <;> try cases er
            rename_i i
            obtain ⟨x, ex, rfl⟩ := map_some' er
            rw [ti] at rd
            simp only [RepF] at rf
            obtain ⟨p, ob, vs, rfl, h1, hx⟩ := rf
            rw [atIx_eq] at ex
            obtain ⟨j, e1, k1⟩ := atI_len (ys := vs) hx.length.symm ex
            obtain ⟨y, e2, ry⟩ := hx.nth e1
            exact .inl (.inl ⟨p, vs, i, y, rfl, rd_int rd, .inl (.inr ⟨ob, h1⟩), k1 y e2, fz ry rfl⟩)
          | tup xs =>
            cases ti : r2.t <;> rw [ti] at er <;> simp only [subRV] at er <;> try cases er
            rename_i i
            obtain ⟨x, ex, rfl⟩ := map_some' er
            rw [ti] at rd
            simp only [RepF] at rf
            obtain ⟨p, vs, rfl, h1, hx⟩ := rf
            rw [atIx_eq] at ex
            obtain ⟨j, e1, k1⟩ := atI_len (ys := vs) hx.length.symm ex
            obtain ⟨y, e2, ry⟩ := hx.nth e1
            exact .inl (.inr ⟨p, vs, i, y, rfl, rd_int rd, SqT.of h1, k1 y e2, fz ry rfl⟩)
          | str x =>
            cases ti : r2.t <;> rw [ti] at er <;> simp only [subRV] at er <;> try cases er
            rename_i i
            split at er
            · rename_i hl
              obtain ⟨c, ex, rfl⟩ := map_some' er
              rw [ti] at rd
              simp only [RepF] at rf
              rw [atIx_eq] at ex
              exact .inr ⟨tS x, i, c, rf, rd_int rd, by rw [tS_len, ← line_eq]; exact hl, by rw [tS_list]; exact ex, fz (t := .str [c]) (by simp only [RepF]; rfl) rfl⟩
            · cases er
          | dic kvs => exact absurd rfl (n1 kvs)
          | _ => simp [subRV] at er
        | lst xs =>
          cases ti : r2.t <;> rw [ti] at er <;> simp only [subRV] at er <;> try cases er
          rename_i i
          obtain ⟨x, ex, rfl⟩ := map_some' er
          rw [ti] at rd
          have ho : RepO cl .own H2 v1 (.lst xs) as1 := ho
          simp only [RepO] at ho
          obtain ⟨p, vs, bs, rfl, h1, rfl, hx⟩ := ho
          rw [atIx_eq] at ex
          obtain ⟨j, e1, k1⟩ := atI_len (ys := vs) hx.length.symm ex
          obtain ⟨y, b, e2, ry, hb⟩ := hx.nth e1
          exact .inl (.inl ⟨p, vs, i, y, rfl, rd_int rd, SqL.of h1, k1 y e2, kq y H2 A2 b (p1.part p2 hq (hb.trans (List.sublist_cons_self _ _)) ry)⟩)
        | tup xs =>
          cases ti : r2.t <;> rw [ti] at er <;> simp only [subRV] at er <;> try cases er
          rename_i i
          obtain ⟨x, ex, rfl⟩ := map_some' er
          rw [ti] at rd
          have ho : RepO cl .own H2 v1 (.tup xs) as1 := ho
          simp only [RepO] at ho
          obtain ⟨p, vs, rfl, h1, hx⟩ := ho
          rw [atIx_eq] at ex
          obtain ⟨j, e1, k1⟩ := atI_len (ys := vs) hx.length.symm ex
          obtain ⟨y, b, e2, ry, hb⟩ := hx.nth e1
          exact .inl (.inr ⟨p, vs, i, y, rfl, rd_int rd, SqT.of h1, k1 y e2, kq y H2 A2 b (p1.part p2 hq hb ry)⟩)
        | dic T kvs => exact absurd rfl (n2 T kvs)
        | ins c fs => simp [subRV] at er
      | bor jj o =>
        cases o with
        | lst xs =>
          cases ti : r2.t <;> rw [ti] at er <;> simp only [subRV] at er <;> try cases er
          rename_i i
          obtain ⟨x, ex, rfl⟩ := map_some' er
          rw [ti] at rd
          obtain ⟨_, bs, ho⟩ := ho
          simp only [RepO] at ho
          obtain ⟨p, vs, bs', rfl, h1, rfl, hx⟩ := ho
          rw [atIx_eq] at ex
          obtain ⟨j, e1, k1⟩ := atI_len (ys := vs) hx.length.symm ex
          obtain ⟨y, b, e2, ry, hb⟩ := hx.nth e1
          exact .inl (.inl ⟨p, vs, i, y, rfl, rd_int rd, .inl (Nd.rd h1), k1 y e2, kq y H2 A2 [] (p1.part p2 hq (List.nil_sublist _) (borOk ry))⟩)
        | tup xs =>
          cases ti : r2.t <;> rw [ti] at er <;> simp only [subRV] at er <;> try cases er
          rename_i i
          obtain ⟨x, ex, rfl⟩ := map_some' er
          rw [ti] at rd
          obtain ⟨_, bs, ho⟩ := ho
          simp only [RepO] at ho
          obtain ⟨p, vs, rfl, h1, hx⟩ := ho
          rw [atIx_eq] at ex
          obtain ⟨j, e1, k1⟩ := atI_len (ys := vs) hx.length.symm ex
          obtain ⟨y, b, e2, ry, hb⟩ := hx.nth e1
          exact .inl (.inr ⟨p, vs, i, y, rfl, rd_int rd, SqT.of h1, k1 y e2, kq y H2 A2 [] (p1.part p2 hq (List.nil_sublist _) (borOk ry))⟩)
        | dic T kvs => exact absurd rfl (n3 jj T kvs)
        | fz t => simp [subRV] at er
        | ins c fs => simp [subRV] at er
    by_cases c1 : ∃ kvs, r1 = own (.dic kvs)
    · obtain ⟨kvs, e1⟩ := c1
      exact .inr (dic kvs e1)
    · by_cases c2 : ∃ T kvs, r1 = .own (.dic T kvs)
      · obtain ⟨T, kvs, rfl⟩ := c2
        right
        refine twoAt (f := fun x y => subRV x y.t) hq R kq h1 h2 fun {H1 H2 A1 A2 r2 r env2 v1 v2 as1 as2} p1 p2 ho er kq => ?_
        simp [subRV] at er
      · by_cases c3 : ∃ j T kvs, r1 = .bor j (.dic T kvs)
        · obtain ⟨j, T, kvs, rfl⟩ := c3
          right
          refine twoAt (f := fun x y => subRV x y.t) hq R kq h1 h2 fun {H1 H2 A1 A2 r2 r env2 v1 v2 as1 as2} p1 p2 ho er kq => ?_
          simp [subRV] at er
        · exact .inl (lst (fun kvs z => c1 ⟨kvs, z⟩) (fun T kvs z => c2 ⟨T, kvs, z⟩) fun j T kvs z => c3 ⟨j, T, kvs, z⟩)
/-! slices of texts -/
theorem clip_eq (n d : Nat) (i : Int) : clip n i = HT.sIx n d (some i) := by
  show clip n i = if i < 0 then (i + (n : Int)).toNat else min i.toNat n
  unfold clip
  by_cases h : 0 ≤ i
  · rw [if_pos h, if_neg (by omega)]
  · rw [if_neg h, if_pos (by omega)]
    omega
theorem cut_eq (x : Tx) (lo hi : Option Int) : cutS (tS x) lo hi = tS (cut x lo hi) := by
  unfold cutS cut
  rw [tS_list, tS_len]
  cases lo with
  | none =>
    cases hi with
    | none => rfl
    | some j => simp only [clip_eq x.length x.length j]; rfl
  | some i =>
    cases hi with
    | none => simp only [clip_eq x.length 0 i]; rfl
    | some j => simp only [clip_eq x.length x.length j, clip_eq x.length 0 i]; rfl
/-- a part of a slice -/
def TI' (cl xc : Clt) (W : WX) (q : Bool) (f : M (Option Int)) : TO := fun σ H Q => ∃ Bp env A c env', Rel cl Bp H σ env A ∧ f env = some (c, env') ∧
  match c with
  | .ok b => ∀ H' A', TPost cl Bp H σ A q env' H' A' → Q b H'
  | .error x => ∀ cls d H' A', XPost cl xc Bp H σ A x env' cls d H' A' → W cls d σ H'
theorem PO.imp {e : Option Expr} {t t' : TO} (h : PO X e t) (k : ∀ σ H Q, t' σ H Q → t σ H Q) : PO X e t' := ⟨fun pins s σ H Q I q => h.run pins s σ H Q I (k σ H Q q)⟩
theorem to_none : PO X none (TI' cl xc W (quieto none) (evI C none)) := PO.imp po_none fun σ H Q h => by
  obtain ⟨Bp, env, A, c, env', R, e, k⟩ := h
  cases e
  exact k H A ⟨R, Stp.refl, fun _ => ⟨rfl, fun _ _ h => h⟩⟩
theorem to_some {e : Expr} {m : ME} (h : PE X e (TEv cl xc W C m)) : PO X (some e) (TI' cl xc W (quieto (some m)) (evI C (some m))) := PO.imp (po_some h) fun σ H Q h => by
  obtain ⟨Bp, env, A, c, env', R, e, kq⟩ := h
  rcases M.bind_some e with ⟨x, e1, h1, h2⟩ | ⟨r1, env1, h1, h2⟩
  · cases h2
    exact ⟨Bp, env, A, _, _, R, h1, kq⟩
  · refine ⟨Bp, env, A, _, _, R, h1, fun v1 H1 A1 as1 p1 => ?_⟩
    have rd := p1.rv.rd
    cases t : r1.t with
    | int i =>
      rw [t] at h2 rd
      cases h2
      exact ⟨i, rd_int rd, kq _ _ p1.tp⟩
    | _ => rw [t] at h2; cases h2
theorem te_slice {ea : Expr} {a : ME} {lo hi : Option Expr} {l h : Option ME} {pos p2 : Pos} (ha : PE X ea (TEv cl xc W C a)) (hl : PO X lo (TI' cl xc W (quieto l) (evI C l))) (hh : PO X hi (TI' cl xc W (quieto h) (evI C h))) :
    PE X (.Subscript ea (.Slice lo hi none p2) pos) (TEv cl xc W C (.slice a l h)) :=
  PE.imp (pe_slice sl_str ha hl hh) fun σ H Q hw => by
    obtain ⟨Bp, env, A, c, env', R, e, kq⟩ := hw
    have hq : quiet (.slice a l h) = true → (quiet a = true ∧ quieto l = true) ∧ quieto h = true := fun e => by simpa only [quiet, Bool.and_eq_true] using e
    rcases M.bind_some e with ⟨x, e1, h1, h2⟩ | ⟨r1, env1, h1, h2⟩
    · cases h2
      exact ⟨Bp, env, A, _, _, R, h1, kq⟩
    · refine ⟨Bp, env, A, _, _, R, h1, fun v1 H1 A1 as1 p1 => ?_⟩
      cases r1 with
      | bor j o => simp [RV.isBor, M.stuck] at h2
      | own o =>
        simp only [RV.isBor, Bool.false_eq_true, if_false] at h2
        rcases M.bind_some h2 with ⟨x, e2, g1, g2⟩ | ⟨lo', env2, g1, g2⟩
        · cases g2
          exact ⟨Bp, env1, A1, _, _, p1.rel, g1, fun cls d H' A' z => kq cls d H' A' (z.behind p1)⟩
        · refine ⟨Bp, env1, A1, _, _, p1.rel, g1, fun H2 A2 p2 => ?_⟩
          rcases M.bind_some g2 with ⟨x, e2, f1, f2⟩ | ⟨hi', env3, f1, f2⟩
          · cases f2
            exact ⟨Bp, env2, A2, _, _, p2.rel, f1, fun cls d H' A' z => kq cls d H' A' ((z.behindT p2).behind p1)⟩
          · refine ⟨Bp, env2, A2, _, _, p2.rel, f1, fun H3 A3 p3 => ?_⟩
            have fp := (p2.stp.fp p1.rel.mut).trans (p3.stp.fp p2.rel.mut)
            cases o with
            | fz t =>
              have rf := RepF.fp fp t (RepO.fzF (m := .own) p1.rv).2
              cases t with
              | str x =>
                have f2 : M.lift ((sliceT (.str x) lo' hi').map .own) env3 = some (c, env') := f2
                simp only [sliceT] at f2
                split at f2
                · rename_i hz
                  cases f2
                  simp only [RepF] at rf
                  refine ⟨tS x, rf, by rw [tS_len, ← line_eq]; exact hz, ?_⟩
                  rw [cut_eq]
                  have p4 := (p2.then p3 (q := quieto l && quieto h) fun e => by simpa using e).thenE (p3.rel.same (t := .str (cut x lo' hi')) (v := .str (tS (cut x lo' hi'))) (by simp only [RepF])) (q := quieto l && quieto h) fun e => ⟨e, rfl⟩
                  exact kq _ H3 A3 [] (p1.then p4 fun e => ⟨(hq e).1.1, by simp [(hq e).1.2, (hq e).2]⟩)
                · simp [M.lift] at f2
              | _ => simp [M.lift, sliceT, RV.t, RV.o, OV.view] at f2
            | lst xs => simp [M.lift, sliceT, RV.t, RV.o, OV.view] at f2
            | tup xs => simp [M.lift, sliceT, RV.t, RV.o, OV.view] at f2
            | dic T xs => simp [M.lift, sliceT, RV.t, RV.o, OV.view] at f2
            | ins c xs => simp [M.lift, sliceT, RV.t, RV.o, OV.view] at f2
end
end PTS

set_option linter.all false
set_option maxRecDepth 100000
/-! built-in functions by trees -/
namespace PTS
open PySem L2 PT

/-! ### repr -/
def k1D : K1 → PyData
  | .i n => .int n
  | .s t => .str (tS t)
def kyD : Ky → PyData
  | .one a => k1D a
  | .tup as => .tuple (as.map k1D)
mutual
def pd : PV → PyData
  | .non => .none
  | .bl b => .bool b
  | .int i => .int i
  | .str s => .str (tS s)
  | .lst xs => .list (pds xs)
  | .tup xs => .tuple (pds xs)
  | .dic kvs => .dict (pdk kvs)
  | .ins _ _ => .none
termination_by structural t => t
def pds : List PV → List PyData
  | [] => []
  | x :: xs => pd x :: pds xs
termination_by structural t => t
def pdk : List (Ky × PV) → List (PyData × PyData)
  | [] => []
  | (k, x) :: xs => (kyD k, pd x) :: pdk xs
termination_by structural t => t
end
mutual
def noIns : PV → Bool
  | .non => true
  | .bl _ => true
  | .int _ => true
  | .str _ => true
  | .lst xs => noInss xs
  | .tup xs => noInss xs
  | .dic kvs => noInsk kvs
  | .ins _ _ => false
termination_by structural t => t
def noInss : List PV → Bool
  | [] => true
  | x :: xs => noIns x && noInss xs
termination_by structural t => t
def noInsk : List (Ky × PV) → Bool
  | [] => true
  | (k, x) :: xs => noIns x && noInsk xs
termination_by structural t => t
end
section
variable {cl : Clt} {X : Cx} {pins : List (Addr × Obj)} {σ : St} {H : Hp} {s : Shared}
theorem reads_k1 {a : K1} {u : Value} (r : keyIs (k1K a) u = true) : Reads s.heap u (k1D a) [] := by
  cases a with
  | i n =>
    rcases keyIs_shape r with ⟨i, t, e1, rfl⟩ | ⟨x, t, e1, rfl⟩
    · cases e1
      exact .int _ _
    · cases e1
  | s x =>
    rcases keyIs_shape r with ⟨i, t, e1, rfl⟩ | ⟨y, t, e1, rfl⟩
    · cases e1
    · cases e1
      exact .str _ _
theorem reads_k1V {a : K1} {u : Value} (r : RelV (kV (k1K a)) u) : Reads s.heap u (k1D a) [] := by
  cases a with
  | i n => obtain ⟨t, rfl⟩ := r; exact .int _ _
  | s x => obtain ⟨t, rfl⟩ := r; exact .str _ _
theorem reads_k1s : ∀ {as : List K1} {us : List Value}, Vals ((as.map k1K).map kV) us → ReadsAll s.heap us (as.map k1D) []
  | [], us, r => by cases r; exact .nil
  | a :: as, us, r => by
    cases r with
    | cons r1 r2 => exact ReadsAll.cons (as := []) (bs := []) (reads_k1V r1) (reads_k1s r2)
def Trk (H : Hp) (as : List Addr) : Prop := ∀ a ∈ as, ∃ u, H a = some u
theorem rd_trk {a : Addr} {u : HO} (h : Rd H a u) : ∃ u, H a = some u := by
  rcases h with h | ⟨o, h⟩ <;> exact ⟨_, h⟩
theorem Trk.cons {a : Addr} {as : List Addr} (h : ∃ u, H a = some u) (k : Trk H as) : Trk H (a :: as) := fun b hb => by
  rcases List.mem_cons.mp hb with rfl | hb
  · exact h
  · exact k b hb
theorem Trk.app {as bs : List Addr} (h : Trk H as) (k : Trk H bs) : Trk H (as ++ bs) := fun b hb => (List.mem_append.mp hb).elim (h b) (k b)
mutual
theorem RdT.reads (I : Inv X pins σ H s) : ∀ (t : PV) {v : V} {u : Value}, RdT cl H v t → RelV v u → noIns t = true → ∃ as, Reads s.heap u (pd t) as ∧ Trk H as
  | .non, v, u, h, r, _ => by rw [rd_non h] at r; cases r; exact ⟨[], .none, fun a h => absurd h List.not_mem_nil⟩
  | .bl b, v, u, h, r, _ => by rw [rd_bl h] at r; cases r; exact ⟨[], .bool b, fun a h => absurd h List.not_mem_nil⟩
  | .int i, v, u, h, r, _ => by rw [rd_int h] at r; obtain ⟨t, rfl⟩ := r; exact ⟨[], .int i t, fun a h => absurd h List.not_mem_nil⟩
  | .str x, v, u, h, r, _ => by rw [rd_str h] at r; obtain ⟨t, rfl⟩ := r; exact ⟨[], .str _ t, fun a h => absurd h List.not_mem_nil⟩
  | .lst xs, v, u, h, r, n => by
    simp only [RdT] at h
    simp only [noIns] at n
    obtain ⟨a, vs, rfl, hr, hx⟩ := h
    cases r
    obtain ⟨z, its, m, rv, e⟩ := hr.ok I.hok
    obtain ⟨as, h1, h2⟩ := RdTs.reads I xs hx rv n
    simp only [pd]
    exact ⟨a :: as, .list e rfl rfl (by simpa using h1), .cons (rd_trk hr) h2⟩
  | .tup xs, v, u, h, r, n => by
    simp only [RdT] at h
    simp only [noIns] at n
    obtain ⟨a, vs, rfl, hr, hx⟩ := h
    cases r
    obtain ⟨its, rv, ⟨o, e, c, m, d⟩, _⟩ := I.tuple (SqT.of (K := X.K) hr)
    obtain ⟨as, h1, h2⟩ := RdTs.reads I xs hx rv n
    simp only [pd]
    exact ⟨as, .tuple e c d (by simpa using h1), h2⟩
  | .dic kvs, v, u, h, r, n => by
    simp only [RdT] at h
    simp only [noIns] at n
    obtain ⟨a, rfl, h⟩ := h
    cases r
    rcases h with ⟨ks, hr, hx⟩ | ⟨ks, hr, hx⟩
    · obtain ⟨_, _, vs, rv, o, es, ep, e, ex, d, _, pr, _⟩ := hr.ok I.hok
      obtain ⟨as, h0, h1, h2⟩ := RdTk.reads I kvs hx rv pr n
      simp only [pd]
      exact ⟨a :: [] ++ as, .dict e ex.1 d h0 h1, .app (.cons (rd_trk hr) fun a h => absurd h List.not_mem_nil) h2⟩
    · obtain ⟨_, _, xs, rv, o, es, ep, e, ex, d, de, _⟩ := hr.ok I.hok
      obtain ⟨as, h0, h1, h2⟩ := RdTt.reads I kvs hx rv n
      simp only [pd]
      refine ⟨a :: [] ++ as, .dict e ex.1 d ?_ ?_, .app (.cons (rd_trk hr) fun a h => absurd h List.not_mem_nil) h2⟩
      · rw [de, List.map_map]; exact h0
      · rw [de, List.map_map]; exact h1
  | .ins c fs, v, u, h, r, n => by simp [noIns] at n
termination_by structural t => t
theorem RdTs.reads (I : Inv X pins σ H s) : ∀ (xs : List PV) {vs : List V} {us : List Value}, RdTs cl H vs xs → Vals vs us → noInss xs = true → ∃ as, ReadsAll s.heap us (pds xs) as ∧ Trk H as
  | [], [], us, h, r, _ => by cases r; simp only [pds]; exact ⟨[], .nil, fun a h => absurd h List.not_mem_nil⟩
  | x :: xs, v :: vs, us, h, r, n => by
    simp only [RdTs] at h
    simp only [noInss, Bool.and_eq_true] at n
    cases r with
    | cons r1 r2 =>
      obtain ⟨as, h1, h2⟩ := RdT.reads I x h.1 r1 n.1
      obtain ⟨bs, k1, k2⟩ := RdTs.reads I xs h.2 r2 n.2
      simp only [pds]
      exact ⟨as ++ bs, .cons h1 k1, h2.app k2⟩
  | [], v :: vs, us, h, r, _ => by simp [RdTs] at h
  | x :: xs, [], us, h, r, _ => by simp [RdTs] at h
termination_by structural t => t
theorem RdTk.reads (I : Inv X pins σ H s) : ∀ (xs : List (Ky × PV)) {ks : List (Key × V)} {vs : List (Key × Value)} {es : List DictEntry}, RdTk cl H ks xs → KV ks vs → Pairs (mixKind X.prog X.w) es vs → noInsk xs = true → ∃ as, ReadsAll s.heap (es.map (·.key)) ((pdk xs).map (·.1)) [] ∧ ReadsAll s.heap (es.map (·.val)) ((pdk xs).map (·.2)) as ∧ Trk H as
  | [], [], vs, es, h, r, p, _ => by cases r; cases p; simp only [pdk]; exact ⟨[], .nil, .nil, fun a h => absurd h List.not_mem_nil⟩
  | (q, x) :: xs, v :: ks, vs, es, h, r, p, n => by
    simp only [RdTk] at h
    simp only [noInsk, Bool.and_eq_true] at n
    obtain ⟨h0, h1, h2⟩ := h
    cases q with
    | tup _ => exact h0.elim
    | one b =>
      cases r with
      | cons r1 r2 =>
        cases p with
        | cons p1 p2 p3 =>
          obtain ⟨as, g1, g2⟩ := RdT.reads I x h1 r1.2 n.1
          obtain ⟨bs, g3, g4, g5⟩ := RdTk.reads I xs h2 r2 p3 n.2
          simp only [pdk, List.map_cons]
          have ek := p1
          rw [show _ = k1K b from r1.1.symm.trans h0] at ek
          have ek : keyIs (k1K b) _ = true := ek
          refine ⟨as ++ bs, ReadsAll.cons (as := []) (bs := []) (reads_k1 ek) g3, ?_, g2.app g5⟩
          rw [p2]
          exact .cons g1 g4
  | [], v :: vs, _, _, h, r, _, _ => by simp [RdTk] at h
  | x :: xs, [], _, _, h, r, _, _ => by simp [RdTk] at h
termination_by structural t => t
theorem RdTt.reads (I : Inv X pins σ H s) : ∀ (xs : List (Ky × PV)) {ks : List (List Key × V)} {vs : List (List Key × Addr × Value)}, RdTt cl H ks xs → Paired (fun (p : List Key × V) (q : List Key × Addr × Value) => p.1 = q.1 ∧ H q.2.1 = some (.tup (p.1.map kV)) ∧ RelV p.2 q.2.2) ks vs → noInsk xs = true →
    ∃ as, ReadsAll s.heap (vs.map ((·.key) ∘ entryOfKey (tupleKind (mixKind X.prog X.w)))) ((pdk xs).map (·.1)) [] ∧ ReadsAll s.heap (vs.map ((·.val) ∘ entryOfKey (tupleKind (mixKind X.prog X.w)))) ((pdk xs).map (·.2)) as ∧ Trk H as
  | [], [], vs, h, r, _ => by cases r; simp only [pdk]; exact ⟨[], .nil, .nil, fun a h => absurd h List.not_mem_nil⟩
  | (q, x) :: xs, v :: ks, vs, h, r, n => by
    simp only [RdTt] at h
    simp only [noInsk, Bool.and_eq_true] at n
    obtain ⟨h0, h1, h2⟩ := h
    cases q with
    | one _ => exact h0.elim
    | tup b =>
      cases r with
      | cons r1 r2 =>
        obtain ⟨e1, e2, e3⟩ := r1
        obtain ⟨as, g1, g2⟩ := RdT.reads I x h1 e3 n.1
        obtain ⟨bs, g3, g4, g5⟩ := RdTt.reads I xs h2 r2 n.2
        simp only [pdk, List.map_cons]
        have z : v.1 = b.map k1K := h0
        rw [z] at e2
        obtain ⟨its, rv, ⟨o, e, c, m, d⟩, _⟩ := I.tuple (SqT.of (K := X.K) e2)
        refine ⟨as ++ bs, ReadsAll.cons (as := []) (bs := []) (Reads.tuple e c d (by simpa using reads_k1s rv)) g3, .cons g1 g4, g2.app g5⟩
  | [], v :: vs, _, h, r, _ => by simp [RdTt] at h
  | x :: xs, [], _, h, r, _ => by simp [RdTt] at h
termination_by structural t => t
end
end
/-- repr's text of a tree -/
def rpS (t : PV) : Option Tx := if noIns t && (pd t).showable && decide ((pd t).depth ≤ 60) && decide ((pd t).shown.length ≤ sizeLine) then some (pd t).shown.cps.toList else none
theorem rpS_some {t : PV} {x : Tx} (h : rpS t = some x) : noIns t = true ∧ (pd t).showable = true ∧ (pd t).depth ≤ 60 ∧ (pd t).shown.length ≤ sizeLine ∧ (pd t).shown = tS x := by
  unfold rpS at h
  split at h
  · rename_i q
    simp only [Bool.and_eq_true, decide_eq_true_eq] at q
    cases h
    exact ⟨q.1.1.1, q.1.1.2, q.1.2, q.2, rfl⟩
  · cases h
section
variable {cl xc : Clt} {W : WX} {C : Cxt} {X : Cx}
theorem al_tup {H : Hp} {p : Addr} {vs : List V} {ts : List PV} (h : RepFs cl H vs ts) (n : H p = none) : Alloc cl H (.ref p) (.fz (.tup ts)) (upd H p (.tup vs)) [] :=
  ⟨by
    simp only [RepO, RepF]
    exact ⟨trivial, p, vs, rfl, upd_same, RepFs.fp (fun b u h _ => upd_all n b u h) ts h⟩, fun _ z => absurd z List.not_mem_nil, List.nodup_nil, upd_all n⟩
theorem CallR.imp {f : Value} {r r' : List V → Hp → VK → Prop} (h : CallR X f r) (k : ∀ x H Q, r' x H Q → r x H Q) : CallR X f r' := fun pins s σ H x v Q I rx q => h pins s σ H x v Q I rx (k x H Q q)
theorem rds1 {H : Hp} {xs : List V} {t : PV} (h : RdTs cl H xs [t]) : ∃ x, xs = [x] ∧ RdT cl H x t := by
  match xs, h with
  | [x], h =>
    simp only [RdTs] at h
    exact ⟨x, rfl, h.1⟩
  | [], h => simp [RdTs] at h
  | _ :: _ :: _, h => simp [RdTs] at h
theorem rds2 {H : Hp} {xs : List V} {t u : PV} (h : RdTs cl H xs [t, u]) : ∃ x y, xs = [x, y] ∧ RdT cl H x t ∧ RdT cl H y u := by
  match xs, h with
  | [x, y], h =>
    simp only [RdTs] at h
    exact ⟨x, y, rfl, h.1, h.2.1⟩
  | [], h => simp [RdTs] at h
  | [_], h => simp [RdTs] at h
  | _ :: _ :: _ :: _, h => simp [RdTs] at h
theorem rds_len {H : Hp} : ∀ {vs : List V} {xs : List PV}, RdTs cl H vs xs → vs.length = xs.length
  | [], [], _ => rfl
  | v :: vs, x :: xs, h => by
    simp only [RdTs] at h
    simp [rds_len h.2]
  | [], _ :: _, h => absurd h (by simp [RdTs])
  | _ :: _, [], h => absurd h (by simp [RdTs])
theorem rds_bls {H : Hp} : ∀ {vs : List V} {xs : List PV} {b : Bool}, RdTs cl H vs xs → allTru xs = some b → ∃ bs : List Bool, vs = bs.map V.bl ∧ bs.all id = b
  | [], [], b, _, e => ⟨[], rfl, by simpa [allTru] using e⟩
  | v :: vs, x :: xs, b, h, e => by
    simp only [RdTs] at h
    cases x <;> simp only [allTru] at e <;> try cases e
    rename_i k
    obtain ⟨c, e1, rfl⟩ := map_some' e
    obtain ⟨bs, rfl, e2⟩ := rds_bls h.2 e1
    exact ⟨k :: bs, by rw [rd_bl h.1]; rfl, by simp [e2]⟩
  | [], _ :: _, _, h, _ => absurd h (by simp [RdTs])
  | _ :: _, [], _, h, _ => absurd h (by simp [RdTs])
theorem cb_len : CallR X (.builtin "len") (rL cl (biT C .len)) := CallR.imp (r := fun xs H Q => (∃ x n, xs = [x] ∧ LenV X.K x H n ∧ Q (.int n) H)) call_len fun xs H Q h => by
  obtain ⟨ts, o, h, e, k⟩ := h
  match ts, h, e with
  | [.lst ys], h, e =>
    cases e
    obtain ⟨x, rfl, h9⟩ := rds1 h
    simp only [RdT] at h9
    obtain ⟨a, vs, rfl, h1, h2⟩ := h9
    exact ⟨_, _, rfl, .inl ⟨vs, .inl h1, rfl⟩, by rw [rds_len h2]; exact k _ _ _ al_int⟩
  | [.tup ys], h, e =>
    cases e
    obtain ⟨x, rfl, h9⟩ := rds1 h
    simp only [RdT] at h9
    obtain ⟨a, vs, rfl, h1, h2⟩ := h9
    exact ⟨_, _, rfl, .inr ⟨vs, SqT.of h1, rfl⟩, by rw [rds_len h2]; exact k _ _ _ al_int⟩
  | [.str y], h, e =>
    simp only [biT] at e
    split at e
    · rename_i hl
      cases e
      obtain ⟨x, rfl, h9⟩ := rds1 h
      exact ⟨_, y.length, rfl, by rw [rd_str h9]; exact ⟨by rw [tS_len, ← line_eq]; exact hl, (tS_len y).symm⟩, k _ _ _ al_int⟩
    · cases e
theorem cb_abs : CallR X (.builtin "abs") (rL cl (biT C .abs)) := CallR.imp call_abs fun xs H Q h => by
  obtain ⟨ts, o, h, e, k⟩ := h
  match ts, h, e with
  | [.int i], h, e =>
    cases e
    obtain ⟨x, rfl, h9⟩ := rds1 h
    exact ⟨i, by rw [rd_int h9], k _ _ _ al_int⟩
theorem cb_max (hc : X.calm = true) : CallR X (.builtin "max") (rL cl (biT C .max2)) := CallR.imp (call_max2 hc) fun xs H Q h => by
  obtain ⟨ts, o, h, e, k⟩ := h
  match ts, h, e with
  | [.int i, .int j], h, e =>
    cases e
    obtain ⟨x, y, rfl, h1, h2⟩ := rds2 h
    exact ⟨i, j, by rw [rd_int h1, rd_int h2], k _ _ _ al_int⟩
theorem cb_min (hc : X.calm = true) : CallR X (.builtin "min") (rL cl (biT C .min2)) := CallR.imp (call_min2 hc) fun xs H Q h => by
  obtain ⟨ts, o, h, e, k⟩ := h
  match ts, h, e with
  | [.int i, .int j], h, e =>
    cases e
    obtain ⟨x, y, rfl, h1, h2⟩ := rds2 h
    exact ⟨i, j, by rw [rd_int h1, rd_int h2], k _ _ _ al_int⟩
theorem cb_divmod : CallR X (.builtin "divmod") (rL cl (biT C .divmod)) := CallR.imp call_divmod fun xs H Q h => by
  obtain ⟨ts, o, h, e, k⟩ := h
  match ts, h, e with
  | [.int i, .int j], h, e =>
    simp only [biT] at e
    split at e
    · rename_i hl
      cases e
      obtain ⟨x, y, rfl, h1, h2⟩ := rds2 h
      exact ⟨i, j, by rw [rd_int h1, rd_int h2], hl, fun p hp => k _ _ _ (al_tup (by simp [RepFs, RepF]) hp)⟩
    · cases e
theorem cb_all (hc : X.calm = true) : CallR X (.builtin "all") (rL cl (biT C .all)) := CallR.imp (cr_all hc) fun xs H Q h => by
  obtain ⟨ts, o, h, e, k⟩ := h
  match ts, h, e with
  | [.lst ys], h, e =>
    obtain ⟨b, eb, rfl⟩ := map_some' (show (allTru ys).map (fun k => OV.fz (.bl k)) = some o from e)
    obtain ⟨x, rfl, h9⟩ := rds1 h
    simp only [RdT] at h9
    obtain ⟨a, vs, rfl, h1, h2⟩ := h9
    obtain ⟨bs, rfl, e2⟩ := rds_bls h2 eb
    exact ⟨a, bs, rfl, .inl h1, by rw [e2]; exact k _ _ _ al_bl⟩
theorem cb_repr (hr : C.rp = rpS) (hg : X.A.guards = some []) (hu : X.A.units + 64 < cLine) (hsm : ∃ o, X.base.get? sysModules = some o) : CallR X (.builtin "repr") (rL cl (biT C .repr)) := by
  intro pins s σ H xs us Q I rx h
  obtain ⟨ts, o, h, e, k⟩ := h
  match ts, h, e with
  | [t], h, e =>
    obtain ⟨x, ex, rfl⟩ := map_some' (show (C.rp t).map (fun k => OV.fz (.str k)) = some o from e)
    rw [hr] at ex
    obtain ⟨n, sh, dp, ln, tx⟩ := rpS_some ex
    obtain ⟨v, rfl, h9⟩ := rds1 h
    obtain ⟨u, rfl, ru⟩ := vals1 rx
    have q : Q (.str (tS x)) H := k _ _ _ al_str
    have fin : ∀ h' w tk, (∀ b o, s.heap.get? b = some o → h'.get? b = some o) → EP X pins σ Q (.str (pd t).shown w) { s with heap := h', toks := tk } := fun h' w tk hk => by
      rw [tx]
      exact ⟨.str _, H, I.kept hk, ⟨_, rfl⟩, q⟩
    have tok : EP X pins σ Q (.str (pd t).shown s.toks) { s with toks := s.toks + 1 } := fin s.heap _ _ fun _ _ h => h
    cases t with
    | non => rw [rd_non h9] at ru; cases ru; exact P.repr_of_none tok
    | bl b => rw [rd_bl h9] at ru; cases ru; exact P.repr_of_bool tok
    | int i =>
      rw [rd_int h9] at ru
      obtain ⟨w, rfl⟩ := ru
      simp only [pd, PyData.showable, decide_eq_true_eq] at sh
      exact P.repr_of_int sh tok
    | str y =>
      rw [rd_str h9] at ru
      obtain ⟨w, rfl⟩ := ru
      simp only [pd, PyData.shown] at ln
      exact P.repr_of_str tok ln
    | ins c fs => simp [noIns] at n
    | _ =>
      obtain ⟨as, r, tr⟩ := RdT.reads I _ h9 ru n
      have z : ∃ a, v = .ref a := by
        simp only [RdT] at h9
        first
          | (obtain ⟨a, _, rfl, _⟩ := h9; exact ⟨a, rfl⟩)
          | (obtain ⟨a, rfl, _⟩ := h9; exact ⟨a, rfl⟩)
      obtain ⟨a, rfl⟩ := z
      cases ru
      refine repr_of_reads' r sh (fun _ hm => ?_) hg (by omega) (fun _ _ h => h) fin ln
      obtain ⟨w, e⟩ := tr _ hm
      obtain ⟨ob, eb⟩ := hsm
      rw [(I.bs _ _ eb).2] at e
      cases e
end
end PTS

set_option linter.all false
set_option maxRecDepth 100000
/-! calls of the text's own defs -/
namespace PTS
open PySem L2 PT

/-- a def keeps its promise, wherever it is called with room and nothing being shown -/
structure FnG (P : Program) (w : World) (K : PySem.W.Frag) (mg : Str → Option Value) (base : Heap) (k : Nat) (f : Addr) (fd : FuncData) (ps : List Str) (sp : Sp) : Prop where
  run : ∀ (A : Around) (outer : List PySem.Env) (s : Shared) (H : Hp) (args : Args) (us : List Value) (vs : List V) (Q : VK) (E : XK), Room k A → A.guards = some [] → Env0 P w K mg base A outer s H → BindsTo s fd args (ps.zip us) → Vals vs us → vs.length = ps.length → sp vs H Q E →
    codeAny (model P w) A (.call (.ref f) args) (CR (CX P w) outer P w H s Q E) s

/-- what the parameters' slots hold -/
def SvsOk (cl : Clt) (Bp : Addr → Prop) (H : Hp) : List V → List SV → List (List Addr) → Prop
  | [], [], [] => True
  | v :: vs, s :: ss, as :: As => s ≠ .un ∧ SlotOk cl Bp H (some (some v)) s as ∧ SvsOk cl Bp H vs ss As
  | _, _, _ => False
/-- what the changed parameters hold behind -/
def OutsOk (cl : Clt) (H : Hp) (vs : List V) : List Nat → List OV → List (List Addr) → Prop
  | [], [], [] => True
  | p :: ps, o :: os, as :: As => (∃ v, vs[p]? = some v ∧ RepO cl .own H v o as) ∧ OutsOk cl H vs ps os As
  | _, _, _ => False
def spOf (cl xc : Clt) (e : FE) : Sp := fun vs H Q E => ∃ (ss : List SV) (As : List (List Addr)) (Bp : Addr → Prop) (r : Except Ex OV) (outs : List OV),
  SvsOk cl Bp H vs ss As ∧ As.flatten.Nodup ∧ (∀ a ∈ As.flatten, ¬ Bp a) ∧ (∀ a, Bp a → ∃ u, H a = some u) ∧ e.sem ss = some (r, outs) ∧
  match r with
  | .ok o => ∀ v H' as Ao, RepO cl .own H' v o as → OutsOk cl H' vs e.ios outs Ao → (as ++ Ao.flatten).Nodup → (∀ a ∈ as ++ Ao.flatten, ¬ Bp a) → Stp As.flatten H (as ++ Ao.flatten) H' → Q v H'
  | .error x => ∀ cls d H' Ao, OutsOk cl H' vs e.ios outs Ao → Ao.flatten.Nodup → (∀ a ∈ Ao.flatten, ¬ Bp a) → Stp As.flatten H Ao.flatten H' → XcOk cl xc H' x cls d → E cls d H'

/-- of a def: a call of that shape binds its parameters so -/
def Shape (K : PySem.W.Frag) (fd : FuncData) (ps : List Str) (ds : List Value) (np : Nat) (kns : List Nat) : Prop :=
  ∀ (s : Shared) (us ws zs : List Value), K.In s.heap → us.length = np → ws.length = kns.length → asmL ps.length ds us kns ws = some zs → BindsTo s fd ⟨us, (kns.filterMap fun j => ps[j]?).zip ws⟩ (ps.zip zs)
/-- a def of the table: where it stands, what it keeps -/
structure FnE (P : Program) (w : World) (K : PySem.W.Frag) (mg : Str → Option Value) (base : Heap) (cl xc : Clt) (k : Nat) (name : Str) (e : FE) (f : Addr) (fd : FuncData) (ps : List Str) (ds : List Value) : Prop where
  g : mg name = some (.ref f)
  keep : PySem.W.keepIn K (.ref f) = true
  ok : FnG P w K mg base k f fd ps (spOf cl xc e)
  np : e.np = ps.length
  dfl : ∃ dv : List V, Vals dv ds ∧ ∀ H, RepFs cl H dv e.dfl

theorem vals_look {kns : List Nat} {zs : List V} {ws : List Value} (r : Vals zs ws) {j : Nat} : (∃ v u, (kns.zip zs).lookup j = some v ∧ (kns.zip ws).lookup j = some u ∧ RelV v u) ∨ ((kns.zip zs).lookup j = none ∧ (kns.zip ws).lookup j = none) := by
  induction r generalizing kns with
  | nil => right; simp
  | cons r rr ih =>
    cases kns with
    | nil => right; simp
    | cons n kns =>
      simp only [List.zip_cons_cons, List.lookup_cons]
      by_cases h : j = n
      · subst h
        left
        exact ⟨_, _, by simp, by simp, r⟩
      · have e : (j == n) = false := by simpa using h
        simp only [e]
        exact ih
theorem asm_rest (np : Nat) {dv zs : List V} {ds ws : List Value} {kns : List Nat} (rd : Vals dv ds) (r2 : Vals zs ws) : ∀ (js : List Nat) {all : List V}, asmJ np dv kns zs js = some all → ∃ vals, asmJ np ds kns ws js = some vals ∧ Vals all vals
  | [], all, e => by cases e; exact ⟨[], rfl, .nil⟩
  | j :: js, all, e => by
    simp only [asmJ] at e
    cases h1 : asmAt np dv kns zs j with
    | none => rw [h1] at e; cases e
    | some v =>
      cases h2 : asmJ np dv kns zs js with
      | none => rw [h1, h2] at e; cases e
      | some rest =>
        rw [h1, h2] at e
        cases e
        obtain ⟨vals, g1, g2⟩ := asm_rest np rd r2 js h2
        obtain ⟨u, g3, g4⟩ : ∃ u, asmAt np ds kns ws j = some u ∧ RelV v u := by
          unfold asmAt at h1 ⊢
          rw [← rd.length]
          rcases vals_look r2 (kns := kns) (j := j) with ⟨v', u', e1, e2, rr⟩ | ⟨e1, e2⟩
          · rw [e1] at h1
            rw [e2]
            cases h1
            exact ⟨u', rfl, rr⟩
          · rw [e1] at h1
            rw [e2]
            simp only at h1 ⊢
            split at h1
            · rename_i hk
              rw [if_pos hk]
              exact rd.get h1
            · cases h1
        exact ⟨u :: vals, by simp only [asmJ, g3, g1], .cons g4 g2⟩
theorem asm_rel (np : Nat) {dv vs zs : List V} {ds us ws : List Value} {kns : List Nat} (rd : Vals dv ds) (r1 : Vals vs us) (r2 : Vals zs ws) {all : List V} (e : asmL np dv vs kns zs = some all) : ∃ vals, asmL np ds us kns ws = some vals ∧ Vals all vals := by
  unfold asmL at e ⊢
  rw [← r1.length]
  split at e
  · rename_i hk
    rw [if_pos hk]
    obtain ⟨rest, e1, rfl⟩ := map_some' e
    obtain ⟨vals, g1, g2⟩ := asm_rest np rd r2 _ e1
    exact ⟨us ++ vals, by rw [g1]; rfl, r1.append g2⟩
  · cases e
section
variable {cl xc : Clt} {W : WX} {C : Cxt} {X : Cx}
theorem run_G {k : Nat} {f : Addr} {fd : FuncData} {ps : List Str} {sp : Sp} {pins : List (Addr × Obj)} {σ : St} {H : Hp} {s : Shared} {Q : VK} {us zs : List Value} {vs : List V} {kw : List (Str × Value)} (F : FnG X.prog X.w X.K X.mg X.base k f fd ps sp) (hr : Room k X.A) (hg : X.A.guards = some []) (tk : Takes X W)
    (I : Inv X pins σ H s) (hb : BindsTo s fd ⟨us, kw⟩ (ps.zip zs)) (r : Vals vs zs) (hl : vs.length = ps.length) (h : sp vs H Q (WE W σ)) : wpAny (model X.prog X.w) X.A (call (.ref f) us kw) (EP X pins σ Q) X.xe s := by
  have z := F.run X.A X.stack s H ⟨us, kw⟩ zs vs Q (WE W σ) hr hg I.env0 hb r hl h
  refine wpAny_call (codeAny_mono z fun out s' hq => ?_)
  match out, hq with
  | .error x, hq => exact passAt tk σ pins H s x s' I hq
  | .ok (.ret u), hq => exact I.after hq
  | .ok .next, hq => exact hq.elim
  | .ok .brk, hq => exact hq.elim
  | .ok .cont, hq => exact hq.elim
/-- a call by a global name: positional values, values by name -/
theorem pe_callG {k : Nat} {f : Addr} {fd : FuncData} {ps : List Str} {ds : List Value} {sp : Sp} {x : Str} {p pos : Pos} {es : List Expr} {kws : List Keyword} {kns : List Nat} {t tk' : TA} (F : FnG X.prog X.w X.K X.mg X.base k f fd ps sp) (hr : Room k X.A) (hg : X.A.guards = some []) (tk : Takes X W)
    (hgl : Gl X x) (hm : X.mg x = some (.ref f)) (hk : PySem.W.keepIn X.K (.ref f) = true) (sh : Shape X.K fd ps ds es.length kns) (ha : PA X es t) (hkw : PK X kws tk') (hd : (x == ("__debug__" : Str)) = false)
    (hcall : ∀ (Q : Value → Shared → Prop) (s : Shared), wpAny (model X.prog X.w) X.A (spliced (backTo pos (starEach es X.env))) (fun us s1 => wpAny (model X.prog X.w) X.A (evalAll ((backToKw pos (keywordEach kws X.env)).map (·.2))) (fun ws s2 => X.K.In s2.heap ∧ us.length = es.length ∧ ws.length = kns.length ∧ wpAny (model X.prog X.w) X.A (call (.ref f) us ((kns.filterMap fun j => ps[j]?).zip ws)) Q X.xe s2) X.xe s1) X.xe s →
      wpAny (model X.prog X.w) X.A (callWith pos (.ref f) [] (backTo pos (starEach es X.env)) (backToKw pos (keywordEach kws X.env))) Q X.xe s) :
    PE X (.Call (.Name x p) es kws pos) fun σ H Q => t σ H fun vs H1 => tk' σ H1 fun zs H2 => vs.length = es.length ∧ zs.length = kns.length ∧ ∃ (all : List V) (dv : List V), Vals dv ds ∧ asmL ps.length dv vs kns zs = some all ∧ all.length = ps.length ∧ sp all H2 Q (WE W σ) := by
  refine ⟨fun pins s σ H Q I h => wpAny_Call_Name_kw (ld_glob I hgl hm (hcall _ _ ?_) hd)⟩
  refine thn (ha.run pos pins s σ H _ I h) fun us s1 ⟨vs, H1, I1, r1, q1⟩ => ?_
  refine thn (hkw.run pos pins s1 σ H1 _ I1 q1) fun ws s2 ⟨zs, H2, I2, r2, l1, l2, all, dv, rd, ea, el, q2⟩ => ?_
  have e1 : us.length = es.length := by rw [← r1.length]; exact l1
  have e2 : ws.length = kns.length := by rw [← r2.length]; exact l2
  refine ⟨I2.kIn, e1, e2, ?_⟩
  obtain ⟨vals, ev, rv⟩ := asm_rel ps.length rd r1 r2 ea
  exact run_G F hr hg tk I2 (sh s2 us ws vals I2.kIn e1 e2 ev) rv el q2

theorem svs_of {Bp : Addr → Prop} {H : Hp} {A : List (List Addr)} {Bq : Addr → Prop} (hB : ∀ a, (a ∈ A.flatten ∨ Bp a) → Bq a) : ∀ {vs : List V} {rs : List RV} {as : List Addr}, RvsOk cl Bp H A vs rs as → ∃ As : List (List Addr), As.flatten = as ∧ SvsOk cl Bq H vs (rs.map RV.sv) As
  | [], [], as, h => ⟨[], by simpa [RvsOk] using h.symm, trivial⟩
  | v :: vs, r :: rs, as, h => by
    obtain ⟨b, c, e, h1, h2⟩ := h
    obtain ⟨As, e2, h3⟩ := svs_of hB h2
    refine ⟨b :: As, by rw [e, List.flatten_cons, e2], ?_⟩
    simp only [List.map_cons, SvsOk]
    cases r with
    | own o => exact ⟨nofun, ⟨v, rfl, h1⟩, h3⟩
    | bor i o =>
      obtain ⟨z, bs, h1⟩ := h1
      refine ⟨nofun, ⟨z, v, bs, rfl, h1.wide fun a h => hB a ?_⟩, h3⟩
      rcases h with h | h
      · exact .inl (mem_getD h)
      · exact .inr h
  | [], _ :: _, as, h => absurd h (by simp [RvsOk])
  | _ :: _, [], as, h => absurd h (by simp [RvsOk])
theorem svs_app {Bp : Addr → Prop} {H : Hp} : ∀ {vs vs' : List V} {ss ss' : List SV} {As As' : List (List Addr)}, SvsOk cl Bp H vs ss As → SvsOk cl Bp H vs' ss' As' → SvsOk cl Bp H (vs ++ vs') (ss ++ ss') (As ++ As')
  | [], _, [], _, [], _, _, h => h
  | v :: vs, _, s :: ss, _, as :: As, _, h, k => ⟨h.1, h.2.1, svs_app h.2.2 k⟩
  | [], _, _ :: _, _, _, _, h, _ => absurd h (by simp [SvsOk])
  | _ :: _, _, [], _, _, _, h, _ => absurd h (by simp [SvsOk])
  | [], _, [], _, _ :: _, _, h, _ => absurd h (by simp [SvsOk])
  | _ :: _, _, _ :: _, _, [], _, h, _ => absurd h (by simp [SvsOk])
/-- the further parameters: nothing of one's own -/
theorem still_nil {Bp : Addr → Prop} {H : Hp} {A : List (List Addr)} : ∀ {zs : List V} {rs : List RV} {as : List Addr}, RvsOk cl Bp H A zs rs as → rs.all RV.still = true → as = []
  | [], [], as, h, _ => by simpa [RvsOk] using h
  | v :: vs, r :: rs, as, h, k => by
    obtain ⟨b, c, e, h1, h2⟩ := h
    simp only [List.all_cons, Bool.and_eq_true] at k
    rw [e, still_nil h2 k.2, List.append_nil]
    cases r with
    | bor i o => exact h1.1
    | own o =>
      cases o with
      | fz t => exact (RepO.fzF (m := .own) h1).1
      | _ => exact absurd k.1 (by simp [RV.still])
  | [], _ :: _, as, h, _ => absurd h (by simp [RvsOk])
  | _ :: _, [], as, h, _ => absurd h (by simp [RvsOk])
theorem rest_look {Bp : Addr → Prop} {H : Hp} {j : Nat} : ∀ {kns : List Nat} {zs : List V} {ss : List SV} {As : List (List Addr)}, SvsOk cl Bp H zs ss As → As.flatten = [] →
    (∃ v s, (kns.zip zs).lookup j = some v ∧ (kns.zip ss).lookup j = some s ∧ s ≠ .un ∧ SlotOk cl Bp H (some (some v)) s []) ∨ ((kns.zip zs).lookup j = none ∧ (kns.zip ss).lookup j = none)
  | [], _, _, _, _, _ => by right; simp
  | n :: kns, [], [], [], _, _ => by right; simp
  | n :: kns, v :: zs, s :: ss, as :: As, h, e => by
    simp only [List.flatten_cons, List.append_eq_nil_iff] at e
    simp only [List.zip_cons_cons, List.lookup_cons]
    by_cases hj : j = n
    · subst hj
      left
      refine ⟨v, s, by simp, by simp, h.1, ?_⟩
      rw [← e.1]
      exact h.2.1
    · have q : (j == n) = false := by simpa using hj
      simp only [q]
      exact rest_look h.2.2 e.2
  | _ :: _, [], _ :: _, _, h, _ => absurd h (by simp [SvsOk])
  | _ :: _, _ :: _, [], _, h, _ => absurd h (by simp [SvsOk])
  | _ :: _, [], [], _ :: _, h, _ => absurd h (by simp [SvsOk])
  | _ :: _, _ :: _, _ :: _, [], h, _ => absurd h (by simp [SvsOk])
theorem rest_ok {Bp : Addr → Prop} {H : Hp} {np : Nat} {dv : List V} {dfl : List PV} {kns : List Nat} {zs : List V} {ss : List SV} {As : List (List Addr)} (hd : RepFs cl H dv dfl) (hz : SvsOk cl Bp H zs ss As) (he : As.flatten = []) :
    ∀ (js : List Nat) {rest : List SV}, asmJ np (dfl.map fun t => SV.own (.fz t)) kns ss js = some rest → ∃ (vr : List V) (Ar : List (List Addr)), asmJ np dv kns zs js = some vr ∧ SvsOk cl Bp H vr rest Ar ∧ Ar.flatten = []
  | [], rest, e => by cases e; exact ⟨[], [], rfl, trivial, rfl⟩
  | j :: js, rest, e => by
    simp only [asmJ] at e
    cases h1 : asmAt np (dfl.map fun t => SV.own (.fz t)) kns ss j with
    | none => rw [h1] at e; cases e
    | some s =>
      cases h2 : asmJ np (dfl.map fun t => SV.own (.fz t)) kns ss js with
      | none => rw [h1, h2] at e; cases e
      | some rest' =>
        rw [h1, h2] at e
        cases e
        obtain ⟨vr, Ar, g1, g2, g3⟩ := rest_ok hd hz he js h2
        obtain ⟨v, g4, g5, g6⟩ : ∃ v, asmAt np dv kns zs j = some v ∧ s ≠ .un ∧ SlotOk cl Bp H (some (some v)) s [] := by
          unfold asmAt at h1 ⊢
          rw [List.length_map] at h1
          rw [hd.length]
          rcases rest_look (j := j) (kns := kns) hz he with ⟨v, s', e1, e2, n, k⟩ | ⟨e1, e2⟩
          · rw [e2] at h1
            rw [e1]
            cases h1
            exact ⟨v, rfl, n, k⟩
          · rw [e2] at h1
            rw [e1]
            simp only at h1 ⊢
            split at h1
            · rename_i hk
              rw [if_pos hk]
              rw [List.getElem?_map] at h1
              obtain ⟨t, e3, rfl⟩ := map_some' h1
              obtain ⟨v, e4, r⟩ := hd.nth e3
              exact ⟨v, e4, nofun, v, rfl, by simp only [RepO]; exact ⟨trivial, r⟩⟩
            · cases h1
        exact ⟨v :: vr, [] :: Ar, by simp only [asmJ, g4, g1], ⟨g5, g6, g2⟩, by simpa using g3⟩
/-- what the changed parameters hold goes back into the slots -/
theorem back_ok {Bp : Addr → Prop} {H : Hp} {σ : St} {args : List ME} {vs : List V} (io : IoOk σ args vs) : ∀ (ps : List Nat) {os : List OV} {Ao : List (List Addr)} {env env' : PT.Env} {A : List (List Addr)}, OutsOk cl H vs ps os Ao → backIo env args ps os = some env' → Rel cl Bp H σ env A → (Ao.flatten ++ A.flatten).Nodup → (∀ a ∈ Ao.flatten, ¬ Bp a) →
    ∃ A', Rel cl Bp H σ env' A' ∧ ∀ a ∈ A'.flatten, a ∈ Ao.flatten ∨ a ∈ A.flatten
  | [], os, Ao, env, env', A, ho, hb, R, _, _ => by
    cases os with
    | nil => cases hb; exact ⟨A, R, fun a h => .inr h⟩
    | cons o os => exact absurd hb (by simp [backIo])
  | p :: ps, [], _, env, env', A, ho, hb, R, _, _ => absurd hb (by simp [backIo])
  | p :: ps, o :: os, [], env, env', A, ho, hb, R, _, _ => absurd ho (by simp [OutsOk])
  | p :: ps, o :: os, ao :: Ao, env, env', A, ho, hb, R, nd, dis => by
    obtain ⟨⟨v, hv, ro⟩, ho⟩ := ho
    simp only [List.flatten_cons] at nd dis
    rw [List.append_assoc] at nd
    have n1 := List.nodup_append.mp nd
    simp only [backIo] at hb
    cases ea : args[p]? with
    | none => rw [ea] at hb; cases hb
    | some m =>
      rw [ea] at hb
      simp only at hb
      have step : ∃ A1, Rel cl Bp H σ (oneIo env m o) A1 ∧ (∀ a ∈ A1.flatten, a ∈ ao ∨ a ∈ A.flatten) := by
        unfold oneIo
        cases m with
        | io i =>
          have hs : σ[i]? = some (some v) := by
            have : ∀ (ms : List ME) (ws : List V) (q : Nat), IoOk σ ms ws → ms[q]? = some (.io i) → ws[q]? = some v → σ[i]? = some (some v) := fun ms => by
              induction ms with
              | nil => intro ws q _ e; simp at e
              | cons m ms ih =>
                intro ws q h e1 e2
                cases ws with
                | nil => simp at e2
                | cons w ws =>
                  cases q with
                  | zero =>
                    simp only [List.getElem?_cons_zero, Option.some.injEq] at e1 e2
                    subst e2
                    exact h.1 i e1
                  | succ q => exact ih ws q h.2 (by simpa using e1) (by simpa using e2)
            exact this args vs p io ea hv
          have hi : i < env.length := by rw [R.len]; exact (List.getElem?_eq_some_iff.mp hs).1
          refine ⟨A.set i ao, R.same_slot hi ⟨v, hs, ro⟩ ?_ fun a h => dis a (List.mem_append_left _ h), fun a h => ?_⟩
          · refine List.nodup_append.mpr ⟨n1.1, (List.nodup_append.mp (nodup_out i R.nd)).2.1, fun a ha b hb e => ?_⟩
            exact n1.2.2 a ha b (List.mem_append_right _ (set_sub A i b hb)) e
          · rcases mem_set h with h | h
            · exact .inl h
            · exact .inr (set_sub A i a h)
        | _ => exact ⟨A, R, fun a h => .inr h⟩
      obtain ⟨A1, R1, hA1⟩ := step
      obtain ⟨A', R', hA'⟩ := back_ok io ps ho hb R1 (by
        refine List.nodup_append.mpr ⟨(List.nodup_append.mp n1.2.1).1, R1.nd, fun a ha b hb e => ?_⟩
        subst e
        rcases hA1 a hb with z | z
        · exact n1.2.2 a z a (List.mem_append_left _ ha) rfl
        · exact (List.nodup_append.mp n1.2.1).2.2 a ha a z rfl) fun a h => dis a (List.mem_append_right _ h)
      refine ⟨A', R', fun a h => ?_⟩
      rw [List.flatten_cons]
      rcases hA' a h with z | z
      · exact .inl (List.mem_append_right _ z)
      · rcases hA1 a z with z | z
        · exact .inl (List.mem_append_left _ z)
        · exact .inr z
theorem io_app {σ : St} : ∀ {ms : List ME} {vs ws : List V}, ms.length = vs.length → IoOk σ ms vs → IoOk σ ms (vs ++ ws)
  | [], _, _, _, _ => trivial
  | m :: ms, v :: vs, ws, h, k => ⟨k.1, io_app (by simpa using h) k.2⟩
  | _ :: _, [], _, h, _ => by simp at h
theorem any_bor {q : Bool} {rs : List RV} (h : (rs.any RV.isBor && !q) = false) : (∃ r ∈ rs, r.isBor = true) → q = true := fun ⟨r, hr, hb⟩ => by
  have : rs.any RV.isBor = true := List.any_eq_true.mpr ⟨r, hr, hb⟩
  rw [this] at h
  simpa using h
/-- a row that was given ahead still stands behind another one -/
theorem rvs_held {Bp : Addr → Prop} {H1 H2 : Hp} {A1 A2 : List (List Addr)} {q : Bool} {T : List Addr} (st : Stp A1.flatten H1 T H2) (f : FP H1 H2) (quiet : q = true → A2 = A1 ∧ ∀ a u, H1 a = some u → H2 a = some u) : ∀ {vs : List V} {rs : List RV} {as : List Addr}, RvsOk cl Bp H1 A1 vs rs as → (∀ a ∈ as, a ∉ A1.flatten) → ((∃ r ∈ rs, r.isBor = true) → q = true) → RvsOk cl Bp H2 A2 vs rs as
  | [], [], as, h, _, _ => h
  | v :: vs, r :: rs, as, h, ha, hb => by
    obtain ⟨b, c, e, h1, h2⟩ := h
    subst e
    refine ⟨b, c, rfl, ?_, rvs_held st f quiet h2 (fun a h => ha a (List.mem_append_right _ h)) fun ⟨r, hr, z⟩ => hb ⟨r, List.mem_cons_of_mem _ hr, z⟩⟩
    cases r with
    | own o => exact RepO.keep h1 f fun a u h e => st.keep a u e (ha a (List.mem_append_left _ h))
    | bor i o =>
      obtain ⟨e1, k⟩ := quiet (hb ⟨_, List.mem_cons_self, rfl⟩)
      subst e1
      obtain ⟨z, bs, h1⟩ := h1
      exact ⟨z, bs, h1.keepB (fun _ _ h _ => k _ _ h) fun _ _ _ h => k _ _ h⟩
  | [], _ :: _, as, h, _, _ => absurd h (by simp [RvsOk])
  | _ :: _, [], as, h, _, _ => absurd h (by simp [RvsOk])
theorem quiet_noio : ∀ {ms : List ME} {p : Nat} {m : ME}, quiets ms = true → ms[p]? = some m → quiet m = true
  | m :: ms, 0, n, h, e => by
    simp only [quiets, Bool.and_eq_true] at h
    simp only [List.getElem?_cons_zero, Option.some.injEq] at e
    rw [← e]; exact h.1
  | m :: ms, p + 1, n, h, e => by
    simp only [quiets, Bool.and_eq_true] at h
    exact quiet_noio h.2 (by simpa using e)
  | [], p, n, h, e => by simp at e
theorem back_quiet {args : List ME} (h : quiets args = true) : ∀ {ps : List Nat} {os : List OV} {env env' : PT.Env}, backIo env args ps os = some env' → env' = env
  | [], [], env, env', e => by cases e; rfl
  | p :: ps, o :: os, env, env', e => by
    simp only [backIo] at e
    cases ea : args[p]? with
    | none => rw [ea] at e; cases e
    | some m =>
      rw [ea] at e
      have q := quiet_noio h ea
      have e2 := back_quiet h e
      rw [e2]
      cases m <;> first | rfl | cases q
  | [], _ :: _, env, env', e => by simp [backIo] at e
  | _ :: _, [], env, env', e => by simp [backIo] at e
theorem evBs_len : ∀ {ms : List ME} {env env' : PT.Env} {rs : List RV}, evBs C ms env = some (.ok rs, env') → rs.length = ms.length
  | [], env, env', rs, e => by cases e; rfl
  | m :: ms, env, env', rs, e => by
    by_cases hi : ∃ i, m = .io i
    · obtain ⟨i, rfl⟩ := hi
      rcases M.bind_some (show M.bind (plVar i) (fun _ => M.bind (evBs C ms) fun xs => if xs.any (RV.borOf i) then M.stuck else M.bind (mvVar i) fun x => M.pure (x :: xs)) env = some (.ok rs, env') from e) with ⟨x, e1, h1, h2⟩ | ⟨r1, env1, h1, h2⟩
      · cases h2
      · rcases M.bind_some h2 with ⟨x, e1, g1, g2⟩ | ⟨rs', env2, g1, g2⟩
        · cases g2
        · split at g2
          · cases g2
          · rcases M.bind_some g2 with ⟨x, e1, f1, f2⟩ | ⟨r, env3, f1, f2⟩
            · cases f2
            · cases f2
              simp [evBs_len g1]
    · rw [evBs_cons fun i e => hi ⟨i, e⟩] at e
      rcases M.bind_some e with ⟨x, e1, h1, h2⟩ | ⟨r1, env1, h1, h2⟩
      · cases h2
      · split at h2
        · cases h2
        · rcases M.bind_some h2 with ⟨x, e1, g1, g2⟩ | ⟨rs', env2, g1, g2⟩
          · cases g2
          · cases g2
            simp [evBs_len g1]
/-- the call's reading -/
theorem te_call {k : Nat} {g : FE} {fn : String} {f : Addr} {fd : FuncData} {ps : List Str} {ds : List Value} {p pos : Pos} {es : List Expr} {kws : List Keyword} {ms mk : List ME} {kns : List Nat} (hC : C.fn fn = some g) (F : FnE X.prog X.w X.K X.mg X.base cl xc k (fS fn) g f fd ps ds) (hr : Room k X.A) (hg : X.A.guards = some []) (tk : Takes X W)
    (hgl : Gl X (fS fn)) (sh : Shape X.K fd ps ds es.length kns) (ha : PA X es (TBv cl xc W C ms)) (hkw : PK X kws (TBv cl xc W C mk)) (hd : (fS fn == ("__debug__" : Str)) = false) (hl1 : ms.length = es.length) (hl2 : mk.length = kns.length)
    (hcall : ∀ (Q : Value → Shared → Prop) (s : Shared), wpAny (model X.prog X.w) X.A (spliced (backTo pos (starEach es X.env))) (fun us s1 => wpAny (model X.prog X.w) X.A (evalAll ((backToKw pos (keywordEach kws X.env)).map (·.2))) (fun ws s2 => X.K.In s2.heap ∧ us.length = es.length ∧ ws.length = kns.length ∧ wpAny (model X.prog X.w) X.A (call (.ref f) us ((kns.filterMap fun j => ps[j]?).zip ws)) Q X.xe s2) X.xe s1) X.xe s →
      wpAny (model X.prog X.w) X.A (callWith pos (.ref f) [] (backTo pos (starEach es X.env)) (backToKw pos (keywordEach kws X.env))) Q X.xe s) :
    PE X (.Call (.Name (fS fn) p) es kws pos) (TEv cl xc W C (.call fn ms kns mk)) :=
  PE.imp (pe_callG F.ok hr hg tk hgl F.g F.keep sh ha hkw hd hcall) fun σ H Q h => by
    obtain ⟨Bp, env, A, c, env', R, e, kq⟩ := h
    have hq : quiet (.call fn ms kns mk) = true → quiets ms = true ∧ quiets mk = true := fun e => by simpa only [quiet, Bool.and_eq_true] using e
    rcases M.bind_some e with ⟨x, e1, h1, h2⟩ | ⟨rs, env1, h1, h2⟩
    · cases h2
      exact ⟨Bp, env, A, _, _, R, h1, kq⟩
    · refine ⟨Bp, env, A, _, _, R, h1, fun vs H1 A1 as1 p1 => ?_⟩
      cases hb : rs.any RV.isBor && !quiets mk with
      | true => rw [hb] at h2; simp [M.stuck] at h2
      | false =>
        rw [hb] at h2
        simp only [Bool.false_eq_true, if_false] at h2
        rcases M.bind_some h2 with ⟨x, e2, g1, g2⟩ | ⟨ks, env2, g1, g2⟩
        · cases g2
          refine ⟨Bp, env1, A1, _, _, p1.rel, g1, fun cls d H' A' z => kq cls d H' A' ⟨z.rel, (p1.stp.less fun _ h => List.mem_append_right _ h).trans z.stp, z.xc⟩⟩
        · refine ⟨Bp, env1, A1, _, _, p1.rel, g1, fun zs H2 A2 as2 p2 => ?_⟩
          cases hs : ks.all RV.still with
          | false => rw [hs] at g2; simp [M.stuck] at g2
          | true =>
            rw [hs] at g2
            simp only [Bool.not_true, Bool.false_eq_true, if_false, hC] at g2
            cases ea : assemble g (rs.map RV.sv) kns (ks.map RV.sv) with
            | none => rw [ea] at g2; cases g2
            | some svs =>
              rw [ea] at g2
              simp only [callE] at g2
              cases es' : g.sem svs with
              | none => rw [es'] at g2; cases g2
              | some out =>
                obtain ⟨r, outs⟩ := out
                rw [es'] at g2
                simp only at g2
                cases eb : backIo env2 ms g.ios outs with
                | none => rw [eb] at g2; cases g2
                | some env3 =>
                  rw [eb] at g2
                  simp only [Option.some.injEq, Prod.mk.injEq] at g2
                  obtain ⟨rfl, rfl⟩ := g2
                  have f12 := p2.stp.fp p1.rel.mut
                  have s1 := List.nodup_append.mp p1.sep
                  have ap : ∀ a ∈ as1, a ∉ as2 ++ A2.flatten := fun a h z => by
                    rcases p2.stp.fresh a z with z | z
                    · exact s1.2.2 a h a z rfl
                    · obtain ⟨u, e, _⟩ := p1.rvs.mut a h
                      rw [z] at e; cases e
                  have e0 := still_nil p2.rvs hs
                  subst e0
                  have rv1 := rvs_held p2.stp f12 p2.quiet p1.rvs (fun a h z => s1.2.2 a h a z rfl) (any_bor hb)
                  -- the callee's parameters
                  let Bq : Addr → Prop := fun a => a ∈ A2.flatten ∨ Bp a
                  obtain ⟨As, eAs, sv1⟩ := svs_of (Bq := Bq) (fun a h => h) rv1
                  obtain ⟨Az, eAz, sv2⟩ := svs_of (Bq := Bq) (fun a h => h) p2.rvs
                  obtain ⟨dv, rd, rdf⟩ := F.dfl
                  have lv : vs.length = es.length := by rw [p1.rvs.length]; have := evBs_len h1; omega
                  have lz : zs.length = kns.length := by rw [p2.rvs.length]; have := evBs_len g1; omega
                  unfold assemble asmL at ea
                  rw [List.length_map] at ea
                  split at ea
                  · rename_i hnp
                    obtain ⟨rest, er, rfl⟩ := map_some' ea
                    obtain ⟨vr, Ar, g4, g5, g6⟩ := rest_ok (rdf H2) sv2 eAz _ er
                    have lr : rs.length = vs.length := p1.rvs.length.symm
                    refine ⟨lv, lz, vs ++ vr, dv, rd, ?_, ?_, ?_⟩
                    · unfold asmL
                      rw [← F.np, ← lr, if_pos hnp, g4]
                      rfl
                    · have : ∀ (js : List Nat) (all : List V), asmJ g.np dv kns zs js = some all → all.length = js.length := fun js => by
                        induction js with
                        | nil => intro all e; cases e; rfl
                        | cons j js ih =>
                          intro all e
                          simp only [asmJ] at e
                          cases q1 : asmAt g.np dv kns zs j with
                          | none => rw [q1] at e; cases e
                          | some v =>
                            cases q2 : asmJ g.np dv kns zs js with
                            | none => rw [q1, q2] at e; cases e
                            | some r => rw [q1, q2] at e; cases e; simp [ih r q2]
                      have := this _ _ g4
                      rw [List.length_range'] at this
                      rw [List.length_append, this, ← F.np]
                      omega
                    · have flat : (As ++ Ar).flatten = as1 := by rw [List.flatten_append, eAs, g6, List.append_nil]
                      have stpA : Stp A.flatten H (as1 ++ A2.flatten) H2 := by
                        have s2 := (p1.stp.less fun _ h => List.mem_append_right _ h).trans p2.stp
                        refine ⟨s2.keep, fun a h => ?_⟩
                        rcases List.mem_append.mp h with h | h
                        · exact p1.stp.fresh a (List.mem_append_left _ h)
                        · exact s2.fresh a (List.mem_append_right _ h)
                      have hm2 : ∀ a ∈ as1, MutU H2 a := rv1.mut
                      refine ⟨rs.map RV.sv ++ rest, As ++ Ar, Bq, r, outs, svs_app sv1 g5, ?_, fun a h z => ?_, fun a h => ?_, es', ?_⟩
                      · rw [flat]; exact s1.1
                      · rw [flat] at h
                        rcases z with z | z
                        · exact ap a h (List.mem_append_right _ z)
                        · exact p1.dis a h z
                      · rcases h with h | h
                        · obtain ⟨u, e, _⟩ := p2.rel.mut a h
                          exact ⟨u, e⟩
                        · exact p2.rel.bpt a h
                      · have io : IoOk σ ms (vs ++ vr) := io_app (by omega) p1.io
                        have fin : ∀ {H3 : Hp} {T : List Addr} {Ao : List (List Addr)}, Stp (As ++ Ar).flatten H2 T H3 → (∀ a ∈ T, ¬ Bq a) → (∀ a ∈ Ao.flatten, a ∈ T) → Ao.flatten.Nodup → OutsOk cl H3 (vs ++ vr) g.ios outs Ao → ∃ A3, Rel cl Bp H3 σ env3 A3 ∧ (∀ a ∈ A3.flatten, a ∈ Ao.flatten ∨ a ∈ A2.flatten) ∧ (quiet (.call fn ms kns mk) = true → A3 = A2) := fun {H3 T Ao} st hT hA nd ho => by
                          have f3 := st.fp fun a h => by rw [flat] at h; exact hm2 a h
                          have R3 : Rel cl Bp H3 σ env2 A2 := p2.rel.to f3 (fun a u h e => st.keep a u e fun z => by rw [flat] at z; exact ap a z (List.mem_append_right _ h)) fun a u b e => st.keep a u e fun z => by rw [flat] at z; exact p1.dis a z b
                          by_cases hqt : quiet (.call fn ms kns mk) = true
                          · have eenv := back_quiet (hq hqt).1 eb
                            subst eenv
                            exact ⟨A2, R3, fun a h => .inr h, fun _ => rfl⟩
                          · obtain ⟨A3, z1, z2⟩ := back_ok io g.ios ho eb R3 (List.nodup_append.mpr ⟨nd, R3.nd, fun a h b hb e => hT a (hA a h) (.inl (e ▸ hb))⟩) fun a h b => hT a (hA a h) (.inr b)
                            exact ⟨A3, z1, z2, fun z => absurd z hqt⟩
                        cases r with
                        | ok o =>
                          intro v H3 as Ao ro ho nd hT st
                          obtain ⟨A3, R3, hA3, hA4⟩ := fin st hT (fun a h => List.mem_append_right _ h) (List.nodup_append.mp nd).2.1 ho
                          refine kq v H3 A3 as ⟨R3, ro, ?_, fun a h b => hT a (List.mem_append_left _ h) (.inr b), ?_, fun e => ?_⟩
                          · refine List.nodup_append.mpr ⟨(List.nodup_append.mp nd).1, R3.nd, fun a h b hb e => ?_⟩
                            subst e
                            rcases hA3 a hb with z | z
                            · exact (List.nodup_append.mp nd).2.2 a h a z rfl
                            · exact hT a (List.mem_append_left _ h) (.inl z)
                          · rw [flat] at st
                            refine ⟨fun a u h n => st.keep a u (stpA.keep a u h n) fun z => ?_, fun a h => ?_⟩
                            · rcases stpA.fresh a (List.mem_append_left _ z) with z | z
                              · exact n z
                              · rw [h] at z; cases z
                            · have back : a ∈ as ++ Ao.flatten → a ∈ A.flatten ∨ H a = none := fun h => by
                                rcases st.fresh a h with z | z
                                · exact stpA.fresh a (List.mem_append_left _ z)
                                · by_cases m : a ∈ A.flatten
                                  · exact .inl m
                                  · right
                                    cases q : H a with
                                    | none => rfl
                                    | some u => rw [stpA.keep a u q m] at z; cases z
                              rcases List.mem_append.mp h with h | h
                              · exact back (List.mem_append_left _ h)
                              · rcases hA3 a h with z | z
                                · exact back (List.mem_append_right _ z)
                                · exact stpA.fresh a (List.mem_append_right _ z)
                          · obtain ⟨q1, q2⟩ := hq e
                            obtain ⟨z1, k1⟩ := p1.quiet q1
                            obtain ⟨z2, k2⟩ := p2.quiet q2
                            refine ⟨(hA4 e).trans (z2.trans z1), fun a u h => ?_⟩
                            refine st.keep a u (k2 a u (k1 a u h)) fun z => ?_
                            rw [flat] at z
                            rcases p1.stp.fresh a (List.mem_append_left _ z) with y | y
                            · subst z1
                              exact s1.2.2 a z a y rfl
                            · rw [h] at y; cases y
                        | error x =>
                          intro cls d H3 Ao ho nd hT st xk
                          obtain ⟨A3, R3, hA3, hA4⟩ := fin st hT (fun a h => h) nd ho
                          refine kq cls d H3 A3 ⟨R3, ?_, xk⟩
                          rw [flat] at st
                          refine ⟨fun a u h n => st.keep a u (stpA.keep a u h n) fun z => ?_, fun a h => ?_⟩
                          · rcases stpA.fresh a (List.mem_append_left _ z) with z | z
                            · exact n z
                            · rw [h] at z; cases z
                          · rcases hA3 a h with z | z
                            · rcases st.fresh a z with z | z
                              · exact stpA.fresh a (List.mem_append_left _ z)
                              · by_cases m : a ∈ A.flatten
                                · exact .inl m
                                · right
                                  cases q : H a with
                                  | none => rfl
                                  | some u => rw [stpA.keep a u q m] at z; cases z
                            · exact stpA.fresh a (List.mem_append_right _ z)
                  · cases ea
end
end PTS

set_option linter.all false
set_option maxRecDepth 100000
/-! walks: what is walked, held still, targets; comprehensions -/
namespace PTS
open PySem L2 PT

section
variable {cl xc : Clt} {W : WX} {C : Cxt} {X : Cx}
variable {Bp : Addr → Prop} {H H' : Hp} {σ : St} {env : PT.Env} {A : List (List Addr)}

/-! ### slots wiped, put back -/
theorem at_big {env : PT.Env} {j : Nat} (h : env.length ≤ j) : env.at j = .un := by
  unfold PT.Env.at
  rw [List.getD_eq_getElem?_getD, List.getElem?_eq_none h]
  rfl
theorem wipeE_len (env : PT.Env) : ∀ vs : List Nat, (wipeE env vs).length = env.length
  | [] => rfl
  | v :: vs => by unfold wipeE; rw [List.length_set, wipeE_len env vs]
theorem at_wipeE (env : PT.Env) (j : Nat) : ∀ vs : List Nat, (wipeE env vs).at j = if j ∈ vs then .un else env.at j
  | [] => by simp [wipeE]
  | v :: vs => by
    unfold wipeE
    rw [at_set, wipeE_len, at_wipeE env j vs]
    by_cases h : v = j
    · subst h
      by_cases hl : v < env.length
      · rw [if_pos ⟨rfl, hl⟩, if_pos List.mem_cons_self]
      · rw [if_neg fun z => hl z.2, if_pos List.mem_cons_self, at_big (by omega)]
        split <;> rfl
    · rw [if_neg fun z => h z.1]
      simp only [List.mem_cons, fun z => h (Eq.symm z), false_or, show ¬ j = v from fun z => h z.symm]
theorem restoreE_len (env0 env : PT.Env) : ∀ vs : List Nat, (restoreE env0 env vs).length = env.length
  | [] => rfl
  | v :: vs => by unfold restoreE; rw [List.length_set, restoreE_len env0 env vs]
theorem at_restoreE {env0 env : PT.Env} (hl : env0.length = env.length) (j : Nat) : ∀ vs : List Nat, (restoreE env0 env vs).at j = if j ∈ vs then env0.at j else env.at j
  | [] => by simp [restoreE]
  | v :: vs => by
    unfold restoreE
    rw [at_set, restoreE_len, at_restoreE hl j vs]
    by_cases h : v = j
    · subst h
      by_cases hv : v < env.length
      · rw [if_pos ⟨rfl, hv⟩, if_pos List.mem_cons_self]
      · rw [if_neg fun z => hv z.2, if_pos List.mem_cons_self, at_big (by omega : env.length ≤ v), at_big (by omega : env0.length ≤ v)]
        split <;> rfl
    · rw [if_neg fun z => h z.1]
      simp only [List.mem_cons, show ¬ j = v from fun z => h z.symm, false_or]
theorem wipe_at (σ : St) (j : Nat) : ∀ vs : List Nat, j ∉ vs → (wipe σ vs)[j]? = σ[j]?
  | [], _ => rfl
  | v :: vs, h => by
    unfold wipe
    have hv : v ≠ j := fun z => h (by rw [z]; exact List.mem_cons_self)
    rw [List.getElem?_set_ne hv, wipe_at σ j vs fun z => h (List.mem_cons_of_mem _ z)]
theorem calm_mem {env : PT.Env} {vs : List Nat} (h : calmAt env vs = true) {j : Nat} (hj : j ∈ vs) : (env.at j).calm = true := by
  unfold calmAt at h
  exact List.all_eq_true.mp h j hj
theorem Rel.calmA (R : Rel cl Bp H σ env A) {j : Nat} (h : (env.at j).calm = true) : A.getD j [] = [] := by
  have q := R.slot j
  cases e : env.at j with
  | un => rw [e] at q; exact q
  | bor o => rw [e] at q; exact q.1
  | own o =>
    rw [e] at q h
    obtain ⟨v, _, r⟩ := q
    cases o with
    | fz t => exact (RepO.fzF (m := .own) r).1
    | _ => cases h
theorem Rel.wiped (R : Rel cl Bp H σ env A) {vs : List Nat} (h : calmAt env vs = true) : Rel cl Bp H (wipe σ vs) (wipeE env vs) A := by
  refine ⟨by rw [wipeE_len, wipe_length]; exact R.len, by rw [wipe_length]; exact R.lenA, fun j => ?_, R.nd, R.dis, R.bpt⟩
  rw [at_wipeE]
  by_cases hj : j ∈ vs
  · rw [if_pos hj]
    exact R.calmA (calm_mem h hj)
  · rw [if_neg hj, wipe_at σ j vs hj]
    exact R.slot j
theorem Rel.restored {Bq : Addr → Prop} {σ : St} {vs : List Nat} {env0 env' : PT.Env} {A0 A' : List (List Addr)} (R0 : Rel cl Bq H σ env0 A0) (R1 : Rel cl Bq H' (wipe σ vs) (wipeE env' vs) A') (h : calmAt env0 vs = true) (f : FP H H') (kb : ∀ a u, Bq a → H a = some u → H' a = some u) : Rel cl Bq H' σ (restoreE env0 env' vs) A' := by
  have hl : env'.length = σ.length := by
    have := R1.len
    rwa [wipeE_len, wipe_length] at this
  refine ⟨by rw [restoreE_len]; exact hl, by have := R1.lenA; rwa [wipe_length] at this, fun j => ?_, R1.nd, R1.dis, R1.bpt⟩
  rw [at_restoreE (R0.len.trans hl.symm)]
  have q1 := R1.slot j
  rw [at_wipeE] at q1
  by_cases hj : j ∈ vs
  · rw [if_pos hj] at q1 ⊢
    have e1 : A'.getD j [] = [] := q1
    rw [e1]
    have q0 := R0.slot j
    have c := calm_mem h hj
    cases e : env0.at j with
    | un => exact rfl
    | bor o =>
      rw [e] at q0
      obtain ⟨_, v, bs, z, r⟩ := q0
      exact ⟨rfl, v, bs, z, r.keepB f kb⟩
    | own o =>
      rw [e] at q0 c
      obtain ⟨v, z, r⟩ := q0
      cases o with
      | fz t =>
        obtain ⟨_, r⟩ := RepO.fzF (m := .own) r
        exact ⟨v, z, by simp only [RepO]; exact ⟨trivial, r.fp f _⟩⟩
      | _ => cases c
  · rw [if_neg hj, wipe_at σ j vs hj] at q1
    rw [if_neg hj]
    exact q1

/-! ### held still -/
def lockA (A : List (List Addr)) : Option Nat → List (List Addr)
  | none => A
  | some i => A.set i []
def rootA (A : List (List Addr)) : Option Nat → List Addr
  | none => []
  | some i => A.getD i []
def lkB (Bp : Addr → Prop) (A : List (List Addr)) (r : Option Nat) (as : List Addr) : Addr → Prop := fun a => (a ∈ rootA A r ∨ Bp a) ∨ a ∈ as
theorem lockE_len (env : PT.Env) (r : Option Nat) : (lockE env r).length = env.length := by
  unfold lockE
  cases r with
  | none => rfl
  | some i =>
    simp only
    split
    · rw [List.length_set]
    · rfl
theorem lockA_len (A : List (List Addr)) (r : Option Nat) : (lockA A r).length = A.length := by
  unfold lockA
  cases r with
  | none => rfl
  | some i => simp
theorem lockA_sub {A : List (List Addr)} {r : Option Nat} {a : Addr} (h : a ∈ (lockA A r).flatten) : a ∈ A.flatten := by
  cases r with
  | none => exact h
  | some i => exact set_sub A i a h
theorem lock_nd {A : List (List Addr)} (r : Option Nat) (h : A.flatten.Nodup) : (rootA A r ++ (lockA A r).flatten).Nodup := by
  cases r with
  | none => exact h
  | some i => exact nodup_out i h
theorem Rel.lock (R : Rel cl Bp H σ env A) (r : Option Nat) {as : List Addr} (sep : (as ++ A.flatten).Nodup) (hm : ∀ a ∈ as, MutU H a) : Rel cl (lkB Bp A r as) H σ (lockE env r) (lockA A r) := by
  have nd := lock_nd r R.nd
  refine ⟨by rw [lockE_len]; exact R.len, by rw [lockA_len]; exact R.lenA, fun j => ?_, (List.nodup_append.mp nd).2.1, fun a h b => ?_, fun a b => ?_⟩
  · have q := R.slot j
    have wide : ∀ {s : SV} {as' : List Addr}, SlotOk cl Bp H (σ[j]?) s as' → SlotOk cl (lkB Bp A r as) H (σ[j]?) s as' := fun {s as'} q => by
      cases s with
      | un => exact q
      | own o => exact q
      | bor o =>
        obtain ⟨z, v, bs, z2, r⟩ := q
        exact ⟨z, v, bs, z2, r.wide fun a h => .inl (.inr h)⟩
    cases r with
    | none => exact wide q
    | some i =>
      simp only [lockE, lockA, rootA] at wide ⊢
      have el : env.length = A.length := R.len.trans R.lenA.symm
      cases e : env.at i with
      | own o =>
        simp only
        rw [at_set, getD_set, el]
        by_cases hij : i = j ∧ i < A.length
        · rw [if_pos hij, if_pos hij]
          obtain ⟨rfl, hl⟩ := hij
          rw [e] at q
          obtain ⟨v, z, r⟩ := q
          exact ⟨rfl, v, _, z, r.lend fun a h => .inl (.inl h)⟩
        · rw [if_neg hij, if_neg hij]
          exact wide q
      | un =>
        simp only
        have e0 : A.getD i [] = [] := R.calmA (by rw [e]; rfl)
        have e1 : A.set i [] = A := by have := set_getD A i; rw [e0] at this; exact this
        rw [e1]
        exact wide q
      | bor o =>
        simp only
        have e0 : A.getD i [] = [] := R.calmA (by rw [e]; rfl)
        have e1 : A.set i [] = A := by have := set_getD A i; rw [e0] at this; exact this
        rw [e1]
        exact wide q
  · rcases b with (b | b) | b
    · exact (List.nodup_append.mp nd).2.2 a b a h rfl
    · exact R.dis a (lockA_sub h) b
    · exact (List.nodup_append.mp sep).2.2 a b a (lockA_sub h) rfl
  · rcases b with (b | b) | b
    · have hb : a ∈ A.flatten := by
        cases r with
        | none => exact absurd b List.not_mem_nil
        | some i => exact mem_getD b
      obtain ⟨u, e, _⟩ := R.mut a hb
      exact ⟨u, e⟩
    · exact R.bpt a b
    · obtain ⟨u, e, _⟩ := hm a b
      exact ⟨u, e⟩
theorem at_mergeE (wr : List Nat) : ∀ (n : Nat) (e0 e : PT.Env) (j : Nat), e0.length = e.length → (mergeE wr n e0 e).at j = mergeS (wr.contains (n + j)) (e0.at j) (e.at j)
  | n, [], [], j, _ => by simp [mergeE, PT.Env.at, mergeS]
  | n, s0 :: e0, s :: e, 0, _ => by simp [mergeE, PT.Env.at]
  | n, s0 :: e0, s :: e, j + 1, h => by
    have ih := at_mergeE wr (n + 1) e0 e j (by simpa using h)
    unfold PT.Env.at at ih ⊢
    simp only [mergeE, List.getD_cons_succ]
    rw [ih, show n + 1 + j = n + (j + 1) by omega]
  | n, [], _ :: _, j, h => by simp at h
  | n, _ :: _, [], j, h => by simp at h
theorem mergeE_len (wr : List Nat) : ∀ (n : Nat) (e0 e : PT.Env), e0.length = e.length → (mergeE wr n e0 e).length = e.length
  | n, [], [], _ => rfl
  | n, s0 :: e0, s :: e, h => by
    simp only [mergeE, List.length_cons]
    rw [mergeE_len wr (n + 1) e0 e (by simpa using h)]
  | n, [], _ :: _, h => by simp at h
  | n, _ :: _, [], h => by simp at h
def unlockA (A : List (List Addr)) (env : PT.Env) (r : Option Nat) (A' : List (List Addr)) : List (List Addr) :=
  match r with
  | none => A'
  | some i => match env.at i with
    | .own _ => A'.set i (A.getD i [])
    | _ => A'
theorem Rel.unlocked {wr : List Nat} {σ' : St} {env' env'' : PT.Env} {A' : List (List Addr)} {r : Option Nat} {as : List Addr} (R0 : Rel cl Bp H σ env A) (R1 : Rel cl (lkB Bp A r as) H' σ' env' A') (f : FP H H') (kb : ∀ a u, lkB Bp A r as a → H a = some u → H' a = some u) (hs : σ'.length = σ.length) (hw : ∀ i, i ∉ wr → σ'[i]? = σ[i]?)
    (e : unlockE wr env r env' = some env'') : Rel cl Bp H' σ' env'' (unlockA A env r A') ∧ ∀ a ∈ (unlockA A env r A').flatten, a ∈ A'.flatten ∨ a ∈ rootA A r := by
  have hl : env.length = env'.length := R0.len.trans (hs.symm.trans R1.len.symm)
  have disB : ∀ a ∈ A'.flatten, ¬ Bp a := fun a h b => R1.dis a h (.inl (.inr b))
  have bpt : ∀ a, Bp a → ∃ u, H' a = some u := fun a b => by
    obtain ⟨u, h⟩ := R0.bpt a b
    exact ⟨u, kb a u (.inl (.inr b)) h⟩
  have base : Rel cl Bp H' σ' (mergeE wr 0 env env') A' := by
    refine ⟨by rw [mergeE_len _ _ _ _ hl]; exact R1.len, R1.lenA, fun j => ?_, R1.nd, disB, bpt⟩
    rw [at_mergeE wr 0 env env' j hl, Nat.zero_add]
    have q1 := R1.slot j
    have q0 := R0.slot j
    cases e1 : env'.at j with
    | un =>
      rw [e1] at q1
      cases env.at j <;> exact q1
    | own o =>
      rw [e1] at q1
      cases env.at j <;> exact q1
    | bor p =>
      rw [e1] at q1
      cases e0 : env.at j with
      | un => exact q1.1
      | own o => exact q1.1
      | bor o =>
        simp only [mergeS]
        by_cases hj : j ∈ wr
        · rw [if_pos (by simpa using hj)]
          exact q1.1
        · rw [if_neg (by simpa using hj), hw j hj]
          rw [e0] at q0
          obtain ⟨_, v, bs, z, ro⟩ := q0
          exact ⟨q1.1, v, bs, z, ro.keepB f fun a u b h => kb a u (.inl (.inr b)) h⟩
  cases r with
  | none =>
    cases e
    exact ⟨base, fun a h => .inl h⟩
  | some i =>
    simp only [unlockE] at e
    simp only [unlockA, rootA]
    cases e0 : env.at i with
    | un =>
      rw [e0] at e
      simp only [Option.some.injEq] at e
      subst e
      exact ⟨base, fun a h => .inl h⟩
    | bor o =>
      rw [e0] at e
      simp only [Option.some.injEq] at e
      subst e
      exact ⟨base, fun a h => .inl h⟩
    | own o =>
      rw [e0] at e
      cases e1 : env'.at i with
      | un => rw [e1] at e; cases e
      | own _ => rw [e1] at e; cases e
      | bor p =>
        rw [e1] at e
        simp only at e
        split at e
        · cases e
        · rename_i hi
          simp only [Option.some.injEq] at e
          subst e
          have hi : i ∉ wr := by simpa using hi
          have q0 := R0.slot i
          rw [e0] at q0
          obtain ⟨v, z, ro⟩ := q0
          have hil : i < env.length := by rw [R0.len]; exact (List.getElem?_eq_some_iff.mp z).1
          have ro' : RepO cl .own H' v o (A.getD i []) := ro.keep f fun a u h e => kb a u (.inl (.inl h)) e
          have nd : (A.getD i [] ++ (A'.set i []).flatten).Nodup := List.nodup_append.mpr ⟨(List.nodup_append.mp (nodup_out i R0.nd)).1, (List.nodup_append.mp (nodup_out i R1.nd)).2.1, fun a h b hb e => R1.dis b (set_sub A' i b hb) (.inl (.inl (e ▸ h)))⟩
          refine ⟨base.same_slot (by rw [mergeE_len _ _ _ _ hl, ← hl]; exact hil) ⟨v, (hw i hi).trans z, ro'⟩ nd fun a h b => R0.dis a (mem_getD h) b, fun a h => ?_⟩
          rcases mem_set h with h | h
          · exact .inr h
          · exact .inl (set_sub A' i a h)
end
end PTS

set_option linter.all false
set_option maxRecDepth 100000
/-! targets, what is walked -/
namespace PTS
open PySem L2 PT

section
variable {cl xc : Clt} {W : WX} {C : Cxt} {X : Cx}
variable {Bp : Addr → Prop} {H H' : Hp} {σ : St} {env : PT.Env} {A : List (List Addr)}

/-! ### targets -/
mutual
def gT (K : PySem.W.Frag) : Tn → TG
  | .nm i => gName i
  | .tp ts => gTup K ts.length (gTs K ts)
termination_by structural t => t
def gTs (K : PySem.W.Frag) : List Tn → TGs
  | [] => gNil
  | t :: ts => gCons (gT K t) (gTs K ts)
termination_by structural t => t
end
/-- σ' is σ but at slots of vs -/
def Same (vs : List Nat) (σ σ' : St) : Prop := σ'.length = σ.length ∧ ∀ i, i ∉ vs → σ'[i]? = σ[i]?
theorem Same.refl {vs : List Nat} {σ : St} : Same vs σ σ := ⟨rfl, fun _ _ => rfl⟩
theorem Same.trans {vs ws us : List Nat} {σ σ1 σ2 : St} (a : Same vs σ σ1) (b : Same ws σ1 σ2) (h1 : ∀ i ∈ vs, i ∈ us) (h2 : ∀ i ∈ ws, i ∈ us) : Same us σ σ2 :=
  ⟨b.1.trans a.1, fun i h => (b.2 i fun z => h (h2 i z)).trans (a.2 i fun z => h (h1 i z))⟩
theorem Same.wipe {vs : List Nat} {σ σ' : St} (h : Same vs σ σ') : wipe σ' vs = wipe σ vs := by
  apply List.ext_getElem?
  intro i
  by_cases hi : i ∈ vs
  · have key : ∀ (τ : St) (vs : List Nat), i ∈ vs → (L2.wipe τ vs)[i]? = if i < τ.length then some none else none := fun τ vs hi => by
      induction vs with
      | nil => exact absurd hi List.not_mem_nil
      | cons v vs ih =>
        unfold L2.wipe
        by_cases hv : v = i
        · subst hv
          by_cases hl : v < τ.length
          · rw [List.getElem?_set_self (by rw [wipe_length]; exact hl), if_pos hl]
          · rw [List.getElem?_eq_none (by rw [List.length_set, wipe_length]; omega), if_neg hl]
        · rw [List.getElem?_set_ne hv]
          rcases List.mem_cons.mp hi with z | z
          · exact absurd z.symm hv
          · exact ih z
    rw [key σ' vs hi, key σ vs hi, h.1]
  · rw [wipe_at σ' i vs hi, wipe_at σ i vs hi, h.2 i hi]

def stillOk (cl : Clt) (Bp : Addr → Prop) (H : Hp) (v : V) (r : RV) : Prop := SlotOk cl Bp H (some (some v)) r.sv []
theorem stillOk.own {v : V} {t : PV} : stillOk cl Bp H v (own t) ↔ RepF cl H v t := by
  constructor
  · rintro ⟨v', e, r⟩
    cases e
    exact (RepO.fzF (m := .own) r).2
  · intro r
    exact ⟨v, rfl, by simp only [RepO]; exact ⟨trivial, r⟩⟩
theorem Rel.bind1 {i : Nat} {v : V} {r : RV} {as : List Addr} (R : Rel cl Bp H σ env A) (h : SlotOk cl Bp H (some (some v)) r.sv as) (sep : (as ++ A.flatten).Nodup) (dis : ∀ a ∈ as, ¬ Bp a) (hi : i < env.length) :
    ∃ A', Rel cl Bp H (σ.set i (some v)) (env.set i r.sv) A' ∧ (∀ a ∈ A'.flatten, a ∈ as ++ A.flatten) ∧ (as = [] → A.getD i [] = [] → A' = A) :=
  ⟨A.set i as, R.setS hi h sep dis, fun a h => (mem_set h).elim (fun z => List.mem_append_left _ z) fun z => List.mem_append_right _ (set_sub A i a z), fun e0 e => by subst e0; have := set_getD A i; rwa [e] at this⟩
/-- a row of values, for a row of targets -/
def RowOk (cl : Clt) (Bp : Addr → Prop) (H : Hp) : List V → List RV → List Addr → Prop
  | [], [], as => as = []
  | v :: vs, r :: rs, as => ∃ b c, as = b ++ c ∧ SlotOk cl Bp H (some (some v)) r.sv b ∧ RowOk cl Bp H vs rs c
  | _, _, _ => False
theorem RowOk.length {Bp : Addr → Prop} {H : Hp} : ∀ {vs : List V} {rs : List RV} {as : List Addr}, RowOk cl Bp H vs rs as → vs.length = rs.length
  | [], [], _, _ => rfl
  | v :: vs, r :: rs, as, h => by
    obtain ⟨b, c, _, _, h⟩ := h
    simp [RowOk.length h]
  | [], _ :: _, _, h => absurd h (by simp [RowOk])
  | _ :: _, [], _, h => absurd h (by simp [RowOk])
theorem RowOk.ofF {Bp : Addr → Prop} {H : Hp} : ∀ {vs : List V} {ts : List PV}, RepFs cl H vs ts → RowOk cl Bp H vs (ts.map own) []
  | [], [], _ => rfl
  | v :: vs, t :: ts, h => by
    simp only [RepFs] at h
    exact ⟨[], [], rfl, ⟨v, rfl, by simp only [RepO]; exact ⟨trivial, h.1⟩⟩, RowOk.ofF h.2⟩
  | [], _ :: _, h => absurd h (by simp [RepFs])
  | _ :: _, [], h => absurd h (by simp [RepFs])
theorem RowOk.ofO {Bp : Addr → Prop} {H : Hp} : ∀ {vs : List V} {os : List OV} {as : List Addr}, RepOs cl .own H vs os as → RowOk cl Bp H vs (os.map .own) as
  | [], [], as, h => by simpa [RepOs, RowOk] using h
  | v :: vs, o :: os, as, h => by
    simp only [RepOs] at h
    obtain ⟨b, c, e, h1, h2⟩ := h
    exact ⟨b, c, e, ⟨v, rfl, h1⟩, RowOk.ofO h2⟩
  | [], _ :: _, _, h => absurd h (by simp [RepOs])
  | _ :: _, [], _, h => absurd h (by simp [RepOs])
theorem mkBor_ok {Bp : Addr → Prop} {H : Hp} {j : Nat} {v : V} {o : OV} {bs : List Addr} (h : RepO cl (.bor Bp) H v o bs) : SlotOk cl Bp H (some (some v)) (mkBor j o).sv [] := by
  cases o with
  | fz t => exact ⟨v, rfl, by simp only [RepO]; exact ⟨trivial, (RepO.fzF h).2⟩⟩
  | lst xs => exact ⟨rfl, v, _, rfl, h⟩
  | tup xs => exact ⟨rfl, v, _, rfl, h⟩
  | dic T xs => exact ⟨rfl, v, _, rfl, h⟩
  | ins c xs => exact ⟨rfl, v, _, rfl, h⟩
theorem RowOk.ofB {Bp : Addr → Prop} {H : Hp} {j : Nat} : ∀ {vs : List V} {os : List OV} {bs : List Addr}, RepOs cl (.bor Bp) H vs os bs → RowOk cl Bp H vs (os.map (mkBor j)) []
  | [], [], bs, _ => rfl
  | v :: vs, o :: os, bs, h => by
    simp only [RepOs] at h
    obtain ⟨b, c, _, h1, h2⟩ := h
    exact ⟨[], [], rfl, mkBor_ok h1, RowOk.ofB h2⟩
  | [], _ :: _, _, h => absurd h (by simp [RepOs])
  | _ :: _, [], _, h => absurd h (by simp [RepOs])
theorem bindTs_len : ∀ {ts : List Tn} {xs : List RV} {env env1 : PT.Env}, bindTs ts xs env = some env1 → xs.length = ts.length
  | [], [], _, _, _ => rfl
  | t :: ts, x :: xs, env, env1, e => by
    simp only [bindTs] at e
    split at e
    · simp [bindTs_len e]
    · cases e
  | [], _ :: _, _, _, e => by simp [bindTs] at e
  | _ :: _, [], _, _, e => by simp [bindTs] at e
mutual
theorem bindT_ok {K : PySem.W.Frag} : ∀ (t : Tn) {v : V} {r : RV} {as : List Addr} {σ : St} {env env1 : PT.Env} {A : List (List Addr)} {Q : St → Hp → Prop}, Rel cl Bp H σ env A → SlotOk cl Bp H (some (some v)) r.sv as → (as ++ A.flatten).Nodup → (∀ a ∈ as, ¬ Bp a) → bindT t r env = some env1 →
    (∀ σ2 A2, Rel cl Bp H σ2 env1 A2 → Same t.slots σ σ2 → (∀ a ∈ A2.flatten, a ∈ as ++ A.flatten) → (as = [] → (∀ i ∈ t.slots, A.getD i [] = []) → A2 = A) → Q σ2 H) → gT K t v σ H Q
  | .nm i, v, r, as, σ, env, env1, A, Q, R, h, sep, dis, e, k => by
    simp only [bindT] at e
    split at e
    · rename_i hi
      cases e
      obtain ⟨A', R', h1, h2⟩ := R.bind1 h sep dis hi
      simp only [gT, gName]
      refine k _ A' R' ⟨by rw [List.length_set], fun j hj => ?_⟩ h1 fun e0 z => h2 e0 (z i (by simp [Tn.slots]))
      exact List.getElem?_set_ne fun z => hj (by simp [Tn.slots, z])
    · cases e
  | .tp ts, v, r, as, σ, env, env1, A, Q, R, h, sep, dis, e, k => by
    have fin : ∀ {a : Addr} {vs : List V} {rs : List RV}, v = .ref a → H a = some (.tup vs) → RowOk cl Bp H vs rs as → bindTs ts rs env = some env1 → gT K (.tp ts) v σ H Q := fun {a vs rs} ev ha hr e => by
      simp only [gT, gTup]
      exact ⟨a, vs, ev, .inl (.inl ha), by rw [hr.length]; exact bindTs_len e, bindTs_ok (K := K) ts R hr sep dis e k⟩
    cases r with
    | bor j o =>
      obtain ⟨e0, v', bs, ev, ro⟩ := h
      cases ev
      cases o with
      | tup xs =>
        simp only [bindT] at e
        simp only [RepO] at ro
        obtain ⟨a, vs, ev, ha, rs⟩ := ro
        exact fin ev ha (by rw [e0]; exact RowOk.ofB rs) e
      | _ => simp [bindT] at e
    | own o =>
      obtain ⟨v', ev, ro⟩ := h
      cases ev
      cases o with
      | fz t =>
        obtain ⟨e0, rf⟩ := RepO.fzF (m := .own) ro
        cases t with
        | tup xs =>
          simp only [bindT] at e
          simp only [RepF] at rf
          obtain ⟨a, vs, ev, ha, rs⟩ := rf
          exact fin ev ha (by rw [e0]; exact RowOk.ofF rs) e
        | _ => simp [bindT] at e
      | tup xs =>
        simp only [bindT] at e
        simp only [RepO] at ro
        obtain ⟨a, vs, ev, ha, rs⟩ := ro
        exact fin ev ha (RowOk.ofO rs) e
      | _ => simp [bindT] at e
termination_by structural t => t
theorem bindTs_ok {K : PySem.W.Frag} : ∀ (ts : List Tn) {vs : List V} {xs : List RV} {as : List Addr} {σ : St} {env env1 : PT.Env} {A : List (List Addr)} {Q : St → Hp → Prop}, Rel cl Bp H σ env A → RowOk cl Bp H vs xs as → (as ++ A.flatten).Nodup → (∀ a ∈ as, ¬ Bp a) → bindTs ts xs env = some env1 →
    (∀ σ2 A2, Rel cl Bp H σ2 env1 A2 → Same (slotss ts) σ σ2 → (∀ a ∈ A2.flatten, a ∈ as ++ A.flatten) → (as = [] → (∀ i ∈ slotss ts, A.getD i [] = []) → A2 = A) → Q σ2 H) → gTs K ts vs σ H Q
  | [], [], [], as, σ, env, env1, A, Q, R, h, sep, dis, e, k => by
    cases e
    have q := k σ A R Same.refl (fun _ h => List.mem_append_right _ h) fun _ _ => rfl
    simpa only [gTs, gNil, true_and] using q
  | t :: ts, v :: vs, x :: xs, as, σ, env, env1, A, Q, R, h, sep, dis, e, k => by
    obtain ⟨b, c, rfl, h1, h2⟩ := h
    simp only [bindTs] at e
    cases e1 : bindT t x env with
    | none => rw [e1] at e; cases e
    | some env2 =>
      rw [e1] at e
      simp only at e
      rw [List.append_assoc] at sep
      have n1 := List.nodup_append.mp sep
      have n2 := List.nodup_append.mp n1.2.1
      simp only [gTs, gCons]
      refine ⟨v, vs, rfl, bindT_ok (K := K) t R h1 (List.nodup_append.mpr ⟨n1.1, n2.2.1, fun a h b hb => n1.2.2 a h b (List.mem_append_right _ hb)⟩) (fun a h => dis a (List.mem_append_left _ h)) e1 fun σ2 A2 R2 s2 h3 h4 => ?_⟩
      refine bindTs_ok (K := K) ts R2 h2 (List.nodup_append.mpr ⟨n2.1, R2.nd, fun a h b' hb e => ?_⟩) (fun a h => dis a (List.mem_append_right _ h)) e fun σ3 A3 R3 s3 h5 h6 => ?_
      · subst e
        rcases List.mem_append.mp (h3 a hb) with z | z
        · exact n1.2.2 a z a (List.mem_append_left _ h) rfl
        · exact n2.2.2 a h a z rfl
      · refine k σ3 A3 R3 (s2.trans s3 (fun i z => by simp [slotss, z]) fun i z => by simp [slotss, z]) (fun a z => ?_) fun e0 z => ?_
        · rcases List.mem_append.mp (h5 a z) with z | z
          · exact List.mem_append_left _ (List.mem_append_right _ z)
          · rcases List.mem_append.mp (h3 a z) with z | z
            · exact List.mem_append_left _ (List.mem_append_left _ z)
            · exact List.mem_append_right _ z
        · have e2 := h4 (List.append_eq_nil_iff.mp e0).1 fun i hi => z i (by simp [slotss, hi])
          subst e2
          exact h6 (List.append_eq_nil_iff.mp e0).2 fun i hi => z i (by simp [slotss, hi])
  | [], v :: vs, [], as, σ, env, env1, A, Q, R, h, sep, dis, e, k => by simp [RowOk] at h
  | [], [], x :: xs, as, σ, env, env1, A, Q, R, h, sep, dis, e, k => by simp [RowOk] at h
  | [], v :: vs, x :: xs, as, σ, env, env1, A, Q, R, h, sep, dis, e, k => by simp [bindTs] at e
  | t :: ts, [], [], as, σ, env, env1, A, Q, R, h, sep, dis, e, k => by simp [bindTs] at e
  | t :: ts, [], x :: xs, as, σ, env, env1, A, Q, R, h, sep, dis, e, k => by simp [RowOk] at h
  | t :: ts, v :: vs, [], as, σ, env, env1, A, Q, R, h, sep, dis, e, k => by simp [RowOk] at h
termination_by structural t => t
end

/-! ### what is walked -/
structure ItGo (J : It) (vs : List V) (P : Hp → Prop) : Prop where
  turn : ∀ H i v, P H → vs[i]? = some v → J.go i H ∧ ∀ x H', J.yld i H x H' → H' = H ∧ x = v
  stop : ∀ H, P H → J.stop vs.length H
def ItemsOk (cl : Clt) (Bp : Addr → Prop) (H : Hp) : List V → List RV → Prop
  | [], [] => True
  | v :: vs, r :: rs => stillOk cl Bp H v r ∧ ItemsOk cl Bp H vs rs
  | _, _ => False
theorem ItemsOk.at {Bq : Addr → Prop} {H : Hp} : ∀ {vs : List V} {rs : List RV} {i : Nat} {r : RV}, ItemsOk cl Bq H vs rs → rs[i]? = some r → ∃ v, vs[i]? = some v ∧ stillOk cl Bq H v r
  | [], [], i, r, _, e => by simp at e
  | v :: vs, q :: rs, 0, r, h, e => by
    simp only [List.getElem?_cons_zero, Option.some.injEq] at e
    subst e
    exact ⟨v, rfl, h.1⟩
  | v :: vs, q :: rs, i + 1, r, h, e => by
    obtain ⟨w, h1, h2⟩ := ItemsOk.at (i := i) h.2 (by simpa using e)
    exact ⟨w, by simpa using h1, h2⟩
  | [], _ :: _, _, _, h, _ => absurd h (by simp [ItemsOk])
  | _ :: _, [], _, _, h, _ => absurd h (by simp [ItemsOk])
theorem ItemsOk.length {Bq : Addr → Prop} {H : Hp} : ∀ {vs : List V} {rs : List RV}, ItemsOk cl Bq H vs rs → vs.length = rs.length
  | [], [], _ => rfl
  | v :: vs, q :: rs, h => by simp [ItemsOk.length h.2]
  | [], _ :: _, h => absurd h (by simp [ItemsOk])
  | _ :: _, [], h => absurd h (by simp [ItemsOk])
theorem stillOk.keep {Bq : Addr → Prop} {v : V} {r : RV} (h : stillOk cl Bq H v r) (f : FP H H') (kb : ∀ a u, Bq a → H a = some u → H' a = some u) : stillOk cl Bq H' v r := by
  cases r with
  | own o =>
    obtain ⟨v', e, ro⟩ := h
    exact ⟨v', e, ro.keep f fun a u z => absurd z List.not_mem_nil⟩
  | bor j o =>
    obtain ⟨z, v', bs, e, ro⟩ := h
    exact ⟨z, v', bs, e, ro.keepB f kb⟩
theorem ItemsOk.keep {Bq : Addr → Prop} (f : FP H H') (kb : ∀ a u, Bq a → H a = some u → H' a = some u) : ∀ {vs : List V} {rs : List RV}, ItemsOk cl Bq H vs rs → ItemsOk cl Bq H' vs rs
  | [], [], _ => trivial
  | v :: vs, q :: rs, h => ⟨h.1.keep f kb, h.2.keep f kb⟩
  | [], _ :: _, h => absurd h (by simp [ItemsOk])
  | _ :: _, [], h => absurd h (by simp [ItemsOk])
theorem ItemsOk.ofF {Bq : Addr → Prop} {H : Hp} : ∀ {vs : List V} {ts : List PV}, RepFs cl H vs ts → ItemsOk cl Bq H vs (ts.map own)
  | [], [], _ => trivial
  | v :: vs, t :: ts, h => by
    simp only [RepFs] at h
    exact ⟨stillOk.own.mpr h.1, ItemsOk.ofF h.2⟩
  | [], _ :: _, h => absurd h (by simp [RepFs])
  | _ :: _, [], h => absurd h (by simp [RepFs])
theorem ItemsOk.ofB {Bq : Addr → Prop} {H : Hp} {j : Nat} : ∀ {vs : List V} {os : List OV} {bs : List Addr}, RepOs cl (.bor Bq) H vs os bs → ItemsOk cl Bq H vs (os.map (mkBor j))
  | [], [], bs, _ => trivial
  | v :: vs, o :: os, bs, h => by
    simp only [RepOs] at h
    obtain ⟨b, c, _, h1, h2⟩ := h
    exact ⟨mkBor_ok h1, ItemsOk.ofB h2⟩
  | [], _ :: _, _, h => absurd h (by simp [RepOs])
  | _ :: _, [], _, h => absurd h (by simp [RepOs])
theorem RepOs.allFz {m : Md} {H : Hp} : ∀ {vs : List V} {os : List OV} {ts : List PV} {bs : List Addr}, RepOs cl m H vs os bs → allFzO os = some ts → RepFs cl H vs ts
  | [], [], ts, bs, _, e => by cases e; simp [RepFs]
  | v :: vs, .fz t :: os, ts, bs, h, e => by
    simp only [RepOs] at h
    obtain ⟨b, c, _, h1, h2⟩ := h
    simp only [allFzO] at e
    cases q : allFzO os with
    | none => rw [q] at e; cases e
    | some qs =>
      rw [q] at e
      cases e
      simp only [RepFs]
      exact ⟨(RepO.fzF h1).2, RepOs.allFz h2 q⟩
  | v :: vs, .lst _ :: os, ts, bs, h, e => by cases e
  | v :: vs, .tup _ :: os, ts, bs, h, e => by cases e
  | v :: vs, .dic _ _ :: os, ts, bs, h, e => by cases e
  | v :: vs, .ins _ _ :: os, ts, bs, h, e => by cases e
  | [], _ :: _, _, _, h, _ => absurd h (by simp [RepOs])
  | _ :: _, [], _, _, h, _ => absurd h (by simp [RepOs])

/-- what the iterator is to say: the walk of k over what ms give -/
def ItR (cl xc : Clt) (W : WX) (C : Cxt) (k : ItK) (ms : List ME) : TI := fun σ H R => ∃ Bp env A c env', Rel cl Bp H σ env A ∧ evBs C ms env = some (c, env') ∧
  match c with
  | .ok rs => ∃ items, itemsOf k rs = some items ∧ ∀ J vs P us H' A' as, BPost cl Bp H σ ms A (quiets ms) rs env' us H' A' as → ItGo J vs P → P H' → (∀ H1 H2, P H1 → FP H1 H2 → (∀ a u, lkB Bp A' (rootOf rs) as a → H1 a = some u → H2 a = some u) → P H2) → ItemsOk cl (lkB Bp A' (rootOf rs) as) H' vs items → R J H'
  | .error x => ∀ cls d H' A', XPost cl xc Bp H σ A x env' cls d H' A' → W cls d σ H'
theorem PI.imp {tg iter : Expr} {t t' : TI} (h : PI X tg iter t) (k : ∀ σ H Q, t' σ H Q → t σ H Q) : PI X tg iter t' := ⟨fun pins s σ H R I q => h.run pins s σ H R I (k σ H R q)⟩
theorem PI.or {tg iter : Expr} {t u : TI} (h1 : PI X tg iter t) (h2 : PI X tg iter u) : PI X tg iter fun σ H R => t σ H R ∨ u σ H R := ⟨fun pins s σ H R I q => q.elim (h1.run pins s σ H R I) (h2.run pins s σ H R I)⟩
/-- one value of a row -/
theorem row1 {m : ME} (hm : ∀ i, m ≠ .io i) {σ : St} {H : Hp} {T : V → Hp → Prop} {Bp : Addr → Prop} {env env' : PT.Env} {A : List (List Addr)} {c : Except Ex (List RV)} (R : Rel cl Bp H σ env A) (e : evBs C [m] env = some (c, env'))
    (k : match c with
      | .ok rs => ∃ r, rs = [r] ∧ ∀ v H' A' as, EPost cl Bp H σ A (quiet m) r env' v H' A' as → BPost cl Bp H σ [m] A (quiets [m]) rs env' [v] H' A' as → T v H'
      | .error x => ∀ cls d H' A', XPost cl xc Bp H σ A x env' cls d H' A' → W cls d σ H') : TEv cl xc W C m σ H T := by
  rw [evBs_cons hm] at e
  rcases M.bind_some e with ⟨x, e1, h1, h2⟩ | ⟨r1, env1, h1, h2⟩
  · cases h2
    exact ⟨Bp, env, A, _, _, R, h1, k⟩
  · simp only [quiets, Bool.not_true, Bool.and_false, Bool.false_eq_true, if_false] at h2
    cases h2
    obtain ⟨r, er, k⟩ := k
    cases er
    refine ⟨Bp, env, A, _, _, R, h1, fun v H' A' as p => k v H' A' as p ⟨p.rel, ⟨as, [], by simp, p.rv, rfl⟩, p.sep, p.dis, p.stp, fun q => p.quiet (by simpa [quiets] using q), fun i z => absurd z (hm i), trivial⟩⟩
end
end PTS

set_option linter.all false
set_option maxRecDepth 100000
/-! iterators; comprehensions -/
namespace PTS
open PySem L2 PT

section
variable {cl xc : Clt} {W : WX} {C : Cxt} {X : Cx}
variable {Bp : Addr → Prop} {H H' : Hp} {σ : St} {env : PT.Env} {A : List (List Addr)}

theorem seq_go {K : PySem.W.Frag} {a : Addr} {vs : List V} : ItGo (Itl K a) vs fun H => Rd H a (.lst vs) where
  turn := fun H i v p e => ⟨⟨vs, v, .inl p, e⟩, fun x H' ⟨h1, h2⟩ => ⟨h1, by have := h2 vs (.inl p); rw [e] at this; exact (Option.some.inj this).symm⟩⟩
  stop := fun H p => ⟨vs, .inl p, Nat.le_refl _⟩
theorem tup_go {K : PySem.W.Frag} {a : Addr} {vs : List V} : ItGo (Itt K a) vs fun H => H a = some (.tup vs) where
  turn := fun H i v p e => ⟨⟨vs, v, .inl (.inl p), e⟩, fun x H' ⟨h1, h2⟩ => ⟨h1, by have := h2 vs (.inl (.inl p)); rw [e] at this; exact (Option.some.inj this).symm⟩⟩
  stop := fun H p => ⟨vs, .inl (.inl p), Nat.le_refl _⟩
theorem evBs_one {m : ME} {env env' : PT.Env} {rs : List RV} (e : evBs C [m] env = some (.ok rs, env')) : ∃ r, rs = [r] := by
  have := evBs_len e
  match rs, this with
  | [r], _ => exact ⟨r, rfl⟩
theorem pi_seqM {tg l : Expr} {m : ME} (hm : ∀ i, m ≠ .io i) (hl : PE X l (TEv cl xc W C m)) : PI X tg l (ItR cl xc W C .seq [m]) :=
  PI.imp (PI.or (pi_list hl) (pi_tup hl)) fun σ H R h => by
    obtain ⟨Bp, env, A, c, env', R0, e, k⟩ := h
    cases c with
    | error x => exact .inl (row1 hm R0 e k)
    | ok rs =>
      obtain ⟨items, ei, k⟩ := k
      obtain ⟨r, rfl⟩ := evBs_one e
      cases r with
      | own o =>
        cases o with
        | fz t =>
          cases t with
          | lst xs =>
            simp only [itemsOf, Option.some.injEq] at ei
            subst ei
            refine .inl (row1 hm R0 e ⟨_, rfl, fun v H' A' as p bp => ?_⟩)
            have rf := (RepO.fzF (m := .own) p.rv).2
            simp only [RepF] at rf
            obtain ⟨a, o, vs, ev, ha, rs⟩ := rf
            exact ⟨a, ev, ⟨vs, .inl (.inr ⟨o, ha⟩)⟩, k _ vs (fun H => H a = some (.frz o (.lst vs))) _ _ _ _ bp ⟨fun H i v p e => seq_go.turn H i v (.inr ⟨o, p⟩) e, fun H p => seq_go.stop H (.inr ⟨o, p⟩)⟩ ha (fun H1 H2 hr f kb => f _ _ hr rfl) (ItemsOk.ofF rs)⟩
          | tup xs =>
            simp only [itemsOf, Option.some.injEq] at ei
            subst ei
            refine .inr (row1 hm R0 e ⟨_, rfl, fun v H' A' as p bp => ?_⟩)
            have rf := (RepO.fzF (m := .own) p.rv).2
            simp only [RepF] at rf
            obtain ⟨a, vs, ev, ha, rs⟩ := rf
            exact ⟨a, ev, ⟨vs, .inl (.inl ha)⟩, k _ vs _ _ _ _ _ bp tup_go ha (fun H1 H2 hr f kb => f _ _ hr rfl) (ItemsOk.ofF rs)⟩
          | _ => simp [itemsOf] at ei
        | lst xs =>
          simp only [itemsOf] at ei
          cases q : allFzO xs with
          | none => rw [q] at ei; cases ei
          | some ts =>
            rw [q] at ei
            cases ei
            refine .inl (row1 hm R0 e ⟨_, rfl, fun v H' A' as p bp => ?_⟩)
            have ro : RepO cl .own H' v (.lst xs) as := p.rv
            simp only [RepO, Nd] at ro
            obtain ⟨a, vs, bs, ev, ha, eas, rs⟩ := ro
            refine ⟨a, ev, ⟨vs, .inl (.inl ha)⟩, k _ vs (fun H => H a = some (.lst vs)) _ _ _ _ bp ⟨fun H i v p e => seq_go.turn H i v (.inl p) e, fun H p => seq_go.stop H (.inl p)⟩ ha (fun H1 H2 hr f kb => kb a _ (.inr (by rw [eas]; exact List.mem_cons_self)) hr) (ItemsOk.ofF (rs.allFz q))⟩
        | tup xs =>
          simp only [itemsOf] at ei
          cases q : allFzO xs with
          | none => rw [q] at ei; cases ei
          | some ts =>
            rw [q] at ei
            cases ei
            refine .inr (row1 hm R0 e ⟨_, rfl, fun v H' A' as p bp => ?_⟩)
            have ro : RepO cl .own H' v (.tup xs) as := p.rv
            simp only [RepO] at ro
            obtain ⟨a, vs, ev, ha, rs⟩ := ro
            exact ⟨a, ev, ⟨vs, .inl (.inl ha)⟩, k _ vs _ _ _ _ _ bp tup_go ha (fun H1 H2 hr f kb => f _ _ hr rfl) (ItemsOk.ofF (rs.allFz q))⟩
        | _ => simp [itemsOf] at ei
      | bor j o =>
        cases o with
        | lst xs =>
          simp only [itemsOf, Option.some.injEq] at ei
          subst ei
          refine .inl (row1 hm R0 e ⟨_, rfl, fun v H' A' as p bp => ?_⟩)
          obtain ⟨e0, bs, ro⟩ := p.rv
          have ro0 := ro
          simp only [RepO, Nd] at ro
          obtain ⟨a, vs, bs', ev, ha, eas, rs⟩ := ro
          subst e0
          have w : RepOs cl (.bor (lkB Bp A' (rootOf [RV.bor j (OV.lst xs)]) [])) H' vs xs bs' := RepOs.tr FP.refl xs rs fun a u h q => by
            rcases q with q | ⟨q, b⟩
            · exact .inl q
            · exact .inr ⟨q, .inl b⟩
          rcases ha with ⟨o, ha⟩ | ⟨ha, hb⟩
          · refine ⟨a, ev, ⟨vs, .inl (.inr ⟨o, ha⟩)⟩, k _ vs (fun H => H a = some (.frz o (.lst vs))) _ _ _ _ bp ⟨fun H i v p e => seq_go.turn H i v (.inr ⟨o, p⟩) e, fun H p => seq_go.stop H (.inr ⟨o, p⟩)⟩ ha (fun H1 H2 hr f kb => f _ _ hr rfl) (ItemsOk.ofB w)⟩
          · refine ⟨a, ev, ⟨vs, .inl (.inl ha)⟩, k _ vs (fun H => H a = some (.lst vs)) _ _ _ _ bp ⟨fun H i v p e => seq_go.turn H i v (.inl p) e, fun H p => seq_go.stop H (.inl p)⟩ ha (fun H1 H2 hr f kb => kb a _ (.inl hb) hr) (ItemsOk.ofB w)⟩
        | tup xs =>
          simp only [itemsOf, Option.some.injEq] at ei
          subst ei
          refine .inr (row1 hm R0 e ⟨_, rfl, fun v H' A' as p bp => ?_⟩)
          obtain ⟨e0, bs, ro⟩ := p.rv
          simp only [RepO] at ro
          obtain ⟨a, vs, ev, ha, rs⟩ := ro
          subst e0
          have w : RepOs cl (.bor (lkB Bp A' (rootOf [RV.bor j (OV.tup xs)]) [])) H' vs xs bs := RepOs.tr FP.refl xs rs fun a u h q => by
            rcases q with q | ⟨q, b⟩
            · exact .inl q
            · exact .inr ⟨q, .inl b⟩
          exact ⟨a, ev, ⟨vs, .inl (.inl ha)⟩, k _ vs _ _ _ _ _ bp tup_go ha (fun H1 H2 hr f kb => f _ _ hr rfl) (ItemsOk.ofB w)⟩
        | _ => simp [itemsOf] at ei
theorem ItemsOk.ints {Bq : Addr → Prop} {H : Hp} (f : Nat → Int) : ∀ (l : List Nat), ItemsOk cl Bq H (l.map fun k => V.int (f k)) (l.map fun k => own (.int (f k)))
  | [] => trivial
  | n :: l => ⟨stillOk.own.mpr (by simp only [RepF]), ItemsOk.ints f l⟩
theorem rng_go {lo : Int} {n : Nat} : ItGo (Itr lo n) ((List.range n).map fun (k : Nat) => V.int (lo + k)) fun _ => True where
  turn := fun H i v _ e => by
    rw [List.getElem?_map] at e
    cases q : (List.range n)[i]? with
    | none => rw [q] at e; cases e
    | some k =>
      rw [q] at e
      obtain ⟨hl, hk⟩ := List.getElem?_eq_some_iff.mp q
      simp only [List.getElem_range] at hk
      subst hk
      simp only [List.length_range] at hl
      cases e
      exact ⟨hl, fun x H' ⟨h1, h2⟩ => ⟨h1, h2⟩⟩
  stop := fun H _ => by simp [Itr]
theorem ta_row {ms : List ME} {σ : St} {H : Hp} {T : List V → Hp → Prop} {Bp : Addr → Prop} {env env' : PT.Env} {A : List (List Addr)} {c : Except Ex (List RV)} (R : Rel cl Bp H σ env A)
    (k : match c with
      | .ok rs => ∀ vs H' A' as, BPost cl Bp H σ ms A (quiets ms) rs env' vs H' A' as → T vs H'
      | .error x => ∀ cls d H' A', XPost cl xc Bp H σ A x env' cls d H' A' → W cls d σ H') (e : evBs C ms env = some (c, env')) : TBv cl xc W C ms σ H T := ⟨Bp, env, A, c, env', R, e, k⟩
theorem items_range2 {rs items : List RV} (e : itemsOf .range2 rs = some items) : ∃ lo hi : Int, rs = [own (.int lo), own (.int hi)] := by
  rcases rs with _ | ⟨r1, _ | ⟨r2, _ | ⟨_, _⟩⟩⟩ <;> try (simp [itemsOf] at e; done)
  cases r1 <;> try (simp [itemsOf] at e; done)
  rename_i o1
  cases o1 <;> try (simp [itemsOf] at e; done)
  rename_i t1
  cases t1 <;> try (simp [itemsOf] at e; done)
  cases r2 <;> try (simp [itemsOf] at e; done)
  rename_i o2
  cases o2 <;> try (simp [itemsOf] at e; done)
  rename_i t2
  cases t2 <;> try (simp [itemsOf] at e; done)
  exact ⟨_, _, rfl⟩
theorem pi_rng1M {tg a : Expr} {m : ME} {p pos : Pos} (hg : Gl X "range") (hm : X.mg "range" = none) (ha : PA X [a] (TBv cl xc W C [m])) (hs : starEach [a] X.env = [(false, eval a X.env)]) : PI X tg (.Call (.Name "range" p) [a] [] pos) (ItR cl xc W C .range1 [m]) :=
  PI.imp (pi_range1 hg hm ha hs) fun σ H R h => by
    obtain ⟨Bp, env, A, c, env', R0, e, k⟩ := h
    refine ta_row R0 ?_ e
    cases c with
    | error x => exact k
    | ok rs =>
      obtain ⟨items, ei, k⟩ := k
      obtain ⟨r, rfl⟩ := evBs_one e
      intro vs H' A' as bp
      cases r with
      | bor j o => simp [itemsOf] at ei
      | own o =>
        cases o with
        | fz t =>
          cases t with
          | int n =>
            simp only [itemsOf] at ei
            split at ei
            · rename_i hn
              cases ei
              obtain ⟨rf, e0⟩ := bp.rvs.fz (ts := [.int n]) rfl
              match vs, rf with
              | [v], rf =>
                simp only [RepFs, RepF] at rf
                obtain ⟨rfl, _⟩ := rf
                have hl : n ≤ 16777216 := by have := hn.2; unfold PT.line at this; omega
                refine ⟨n, rfl, hn.1, by omega, k _ _ _ _ _ _ _ bp rng_go trivial (fun _ _ _ _ _ => trivial) ?_⟩
                have := ItemsOk.ints (cl := cl) (Bq := lkB Bp A' (rootOf [RV.own (.fz (.int n))]) as) (H := H') (fun k => (k : Int)) (List.range n.toNat)
                simpa only [Int.zero_add] using this
              | [], rf => simp [RepFs] at rf
              | _ :: _ :: _, rf => simp [RepFs] at rf
            · cases ei
          | _ => simp [itemsOf] at ei
        | _ => simp [itemsOf] at ei
theorem pi_rng2M {tg a b : Expr} {m1 m2 : ME} {p pos : Pos} (hg : Gl X "range") (hm : X.mg "range" = none) (ha : PA X [a, b] (TBv cl xc W C [m1, m2])) (hs : starEach [a, b] X.env = [(false, eval a X.env), (false, eval b X.env)]) (hs2 : starEach [b] X.env = [(false, eval b X.env)]) :
    PI X tg (.Call (.Name "range" p) [a, b] [] pos) (ItR cl xc W C .range2 [m1, m2]) :=
  PI.imp (pi_range2 hg hm ha hs hs2) fun σ H R h => by
    obtain ⟨Bp, env, A, c, env', R0, e, k⟩ := h
    refine ta_row R0 ?_ e
    cases c with
    | error x => exact k
    | ok rs =>
      obtain ⟨items, ei, k⟩ := k
      intro vs H' A' as bp
      obtain ⟨lo, hi, rfl⟩ := items_range2 ei
      simp only [itemsOf, own] at ei
      split at ei
      · rename_i hn
        cases ei
        obtain ⟨rf, e0⟩ := bp.rvs.fz (ts := [.int lo, .int hi]) rfl
        match vs, rf with
        | [v, v2], rf =>
          simp only [RepFs, RepF] at rf
          obtain ⟨rfl, rfl, _⟩ := rf
          refine ⟨lo, hi, rfl, ⟨hn.1, hn.2.1, hn.2.2.1, hn.2.2.2.1⟩, k _ _ _ _ _ _ _ bp rng_go trivial (fun _ _ _ _ _ => trivial) ?_⟩
          exact ItemsOk.ints (fun k => lo + (k : Int)) (List.range (hi - lo).toNat)
        | [], rf => simp [RepFs] at rf
        | [_], rf => simp [RepFs] at rf
        | _ :: _ :: _ :: _, rf => simp [RepFs] at rf
      · cases ei
theorem str_go {x : Tx} : ItGo (Its (tS x)) (x.map fun c => V.str (tS [c])) fun _ => True where
  turn := fun H i v _ e => by
    rw [List.getElem?_map] at e
    cases q : x[i]? with
    | none => rw [q] at e; cases e
    | some c =>
      rw [q] at e
      cases e
      obtain ⟨hl, hc⟩ := List.getElem?_eq_some_iff.mp q
      refine ⟨by simpa [Its, tS] using hl, fun y H' ⟨h1, c', h2, h3⟩ => ⟨h1, ?_⟩⟩
      have : c' = c := by
        have h2 : x.toArray[i]? = some c' := h2
        rw [List.getElem?_toArray, q] at h2
        exact (Option.some.inj h2).symm
      rw [h3, this]
      rfl
  stop := fun H _ => by simp [Its, tS]
theorem ItemsOk.strs {Bq : Addr → Prop} {H : Hp} : ∀ (l : Tx), ItemsOk cl Bq H (l.map fun c => V.str (tS [c])) (l.map fun c => own (.str [c]))
  | [] => trivial
  | n :: l => ⟨stillOk.own.mpr (by simp only [RepF]), ItemsOk.strs l⟩
theorem pi_strM {tg l : Expr} {m : ME} (hm : ∀ i, m ≠ .io i) (hl : PE X l (TEv cl xc W C m)) : PI X tg l (ItR cl xc W C .str [m]) :=
  PI.imp (pi_str hl) fun σ H R h => by
    obtain ⟨Bp, env, A, c, env', R0, e, k⟩ := h
    refine row1 hm R0 e ?_
    cases c with
    | error x => exact k
    | ok rs =>
      obtain ⟨items, ei, k⟩ := k
      obtain ⟨r, rfl⟩ := evBs_one e
      refine ⟨r, rfl, fun v H' A' as p bp => ?_⟩
      cases r with
      | bor j o => simp [itemsOf] at ei
      | own o =>
        cases o with
        | fz t =>
          cases t with
          | str x =>
            simp only [itemsOf] at ei
            split at ei
            · cases ei
              have rf := (RepO.fzF (m := .own) p.rv).2
              simp only [RepF] at rf
              exact ⟨tS x, rf, k _ _ _ _ _ _ _ bp str_go trivial (fun _ _ _ _ _ => trivial) (ItemsOk.strs x)⟩
            · cases ei
          | _ => simp [itemsOf] at ei
        | _ => simp [itemsOf] at ei
end
end PTS

set_option linter.all false
set_option maxRecDepth 100000
/-! comprehensions -/
namespace PTS
open PySem L2 PT

section
variable {cl xc : Clt} {W : WX} {C : Cxt} {X : Cx}
variable {Bp : Addr → Prop} {H H' : Hp} {σ : St} {env : PT.Env} {A : List (List Addr)}
theorem RepOs.snoc {m : Md} {H : Hp} {v : V} {o : OV} {b : List Addr} (h : RepO cl m H v o b) : ∀ {vs : List V} {os : List OV} {as : List Addr}, RepOs cl m H vs os as → RepOs cl m H (vs ++ [v]) (os ++ [o]) (as ++ b)
  | [], [], as, h2 => by
    simp only [RepOs] at h2
    subst h2
    simp only [List.nil_append, RepOs]
    exact ⟨b, [], by simp, h, rfl⟩
  | v' :: vs, o' :: os, as, h2 => by
    simp only [RepOs] at h2
    obtain ⟨b1, c1, e, h3, h4⟩ := h2
    subst e
    simp only [List.cons_append, RepOs]
    exact ⟨b1, c1 ++ b, by simp, h3, RepOs.snoc h h4⟩
  | [], _ :: _, _, h2 => absurd h2 (by simp [RepOs])
  | _ :: _, [], _, h2 => absurd h2 (by simp [RepOs])
theorem same_wipe (σ : St) (ws : List Nat) : Same ws σ (wipe σ ws) := ⟨wipe_length σ ws, fun i h => wipe_at σ i ws h⟩

/-- the state between a comprehension's turns -/
structure LI (cl : Clt) (Bq : Addr → Prop) (H1 : Hp) (σ : St) (A0 : List (List Addr)) (q : Bool) (ws : List Nat) (D : Addr) (step : RV → M (Option OV)) (items : List RV) (os : List OV) (env2 : PT.Env) (i : Nat) (Hh : Hp) (ei : PT.Env) (Ai : List (List Addr)) (done rest : List OV) (acc : List V) (bs : List Addr) : Prop where
  rel : Rel cl Bq Hh (wipe σ ws) (wipeE ei ws) Ai
  run : lcLoop step (items.drop i) ei = some (.ok rest, env2)
  sum : done ++ rest = os
  at_ : Hh D = some (.lst acc)
  rep : RepOs cl .own Hh acc done bs
  nd : (D :: (bs ++ Ai.flatten)).Nodup
  dis : ∀ a ∈ D :: bs, ¬ Bq a
  stp : Stp A0.flatten H1 (D :: (bs ++ Ai.flatten)) Hh
  len : acc.length ≤ i
  qt : q = true → Ai = A0 ∧ ∀ a u, H1 a = some u → Hh a = some u
/-- a turn: to Hh' with what came, kept or not -/
theorem LI.next {Bq : Addr → Prop} {H1 : Hp} {A0 : List (List Addr)} {q : Bool} {ws : List Nat} {D : Addr} {step : RV → M (Option OV)} {items : List RV} {os : List OV} {env2 : PT.Env} {i : Nat} {Hh H4 : Hp} {ei e2 : PT.Env} {Ai A4 : List (List Addr)} {done rest rest' : List OV} {acc : List V} {bs as4 : List Addr} {σ2 : St} {v4 : V} {o : OV}
    (hD : H1 D = none) (I : LI cl Bq H1 σ A0 q ws D step items os env2 i Hh ei Ai done rest acc bs) (rel : Rel cl Bq H4 σ2 e2 A4) (hw : wipe σ2 ws = wipe σ ws) (calm : calmAt e2 ws = true) (rv : RepO cl .own H4 v4 o as4) (sep : (as4 ++ A4.flatten).Nodup) (dis : ∀ a ∈ as4, ¬ Bq a) (st : Stp Ai.flatten Hh (as4 ++ A4.flatten) H4)
    (quiet : q = true → A4 = Ai ∧ ∀ a u, Hh a = some u → H4 a = some u) (run : lcLoop step (items.drop (i + 1)) e2 = some (.ok rest', env2)) (er : rest = o :: rest') :
    H4 D = some (.lst acc) ∧ LI cl Bq H1 σ A0 q ws D step items os env2 (i + 1) (upd H4 D (.lst (acc ++ [v4]))) e2 A4 (done ++ [o]) rest' (acc ++ [v4]) (bs ++ as4) := by
  have nd := List.nodup_cons.mp I.nd
  have ndb := List.nodup_append.mp nd.2
  have hmb : ∀ a ∈ bs, MutU Hh a := RepOs.mut done I.rep
  have off : ∀ a ∈ D :: bs, a ∉ Ai.flatten := fun a h z => by
    rcases List.mem_cons.mp h with rfl | h
    · exact nd.1 (List.mem_append_right _ z)
    · exact ndb.2.2 a h a z rfl
  have som : ∀ a ∈ D :: bs, ∃ u, Hh a = some u := fun a h => by
    rcases List.mem_cons.mp h with rfl | h
    · exact ⟨_, I.at_⟩
    · obtain ⟨u, e, _⟩ := hmb a h
      exact ⟨u, e⟩
  have apart : ∀ a ∈ D :: bs, a ∉ as4 ++ A4.flatten := fun a h z => by
    rcases st.fresh a z with z | z
    · exact off a h z
    · obtain ⟨u, e⟩ := som a h
      rw [z] at e; cases e
  have keep4 : ∀ a ∈ D :: bs, ∀ u, Hh a = some u → H4 a = some u := fun a h u e => st.keep a u e (off a h)
  have atD : H4 D = some (.lst acc) := keep4 D List.mem_cons_self _ I.at_
  have fhh : FP Hh H4 := st.fp fun a h => by
    obtain ⟨i, h⟩ := mem_flat h
    exact I.rel.mut a (mem_getD h)
  have f45 : FP H4 (upd H4 D (.lst (acc ++ [v4]))) := fun a u e f => by
    rw [upd_ne fun z => ?_]
    · exact e
    · rw [z, atD] at e
      cases e
      cases f
  have ne4 : ∀ a ∈ as4 ++ A4.flatten, a ≠ D := fun a h z => apart D List.mem_cons_self (z ▸ h)
  have neb : ∀ a, Bq a → a ≠ D := fun a b z => I.dis D List.mem_cons_self (z ▸ b)
  refine ⟨atD, ⟨?_, run, by rw [List.append_assoc, List.singleton_append, ← er]; exact I.sum, upd_same, ?_, ?_, fun a h => ?_, ?_, by have := I.len; simp; omega, fun e => ?_⟩⟩
  · have := rel.wiped calm
    rw [hw] at this
    exact this.to f45 (fun a u h e => by rw [upd_ne (ne4 a (List.mem_append_right _ h))]; exact e) fun a u b e => by rw [upd_ne (neb a b)]; exact e
  · refine RepOs.snoc (rv.keep f45 fun a u h e => by rw [upd_ne (ne4 a (List.mem_append_left _ h))]; exact e) ?_
    refine RepOs.tr (fhh.trans f45) done I.rep fun a u h z => ?_
    have hne : a ≠ D := fun e => nd.1 (e ▸ List.mem_append_left _ h)
    show upd H4 D _ a = some u
    rw [upd_ne hne]
    exact keep4 a (List.mem_cons_of_mem _ h) u z
  · rw [List.append_assoc]
    refine List.nodup_cons.mpr ⟨fun z => ?_, List.nodup_append.mpr ⟨ndb.1, sep, fun a h b hb e => apart a (List.mem_cons_of_mem _ h) (e ▸ hb)⟩⟩
    rcases List.mem_append.mp z with z | z
    · exact nd.1 (List.mem_append_left _ z)
    · exact apart D List.mem_cons_self z
  · rcases List.mem_cons.mp h with rfl | h
    · exact I.dis a List.mem_cons_self
    · rcases List.mem_append.mp h with h | h
      · exact I.dis a (List.mem_cons_of_mem _ h)
      · exact dis a h
  · refine I.stp.trans ⟨fun a u e n => ?_, fun a h => ?_⟩
    · have hne : a ≠ D := fun z => n (z ▸ List.mem_cons_self)
      rw [upd_ne hne]
      exact st.keep a u e fun z => n (List.mem_cons_of_mem _ (List.mem_append_right _ z))
    · rcases List.mem_cons.mp h with rfl | h
      · exact .inl List.mem_cons_self
      · rw [List.append_assoc] at h
        rcases List.mem_append.mp h with h | h
        · exact .inl (List.mem_cons_of_mem _ (List.mem_append_left _ h))
        · rcases st.fresh a h with z | z
          · exact .inl (List.mem_cons_of_mem _ (List.mem_append_right _ z))
          · exact .inr z
  · obtain ⟨e1, k1⟩ := quiet e
    obtain ⟨e0, k0⟩ := I.qt e
    refine ⟨e1.trans e0, fun a u h => ?_⟩
    have hne : a ≠ D := fun z => by rw [z, hD] at h; cases h
    rw [upd_ne hne]
    exact k1 a u (k0 a u h)
/-- a turn that keeps nothing -/
theorem LI.skip {Bq : Addr → Prop} {H1 : Hp} {A0 : List (List Addr)} {q : Bool} {ws : List Nat} {D : Addr} {step : RV → M (Option OV)} {items : List RV} {os : List OV} {env2 : PT.Env} {i : Nat} {Hh H4 : Hp} {ei e2 : PT.Env} {Ai A4 : List (List Addr)} {done rest : List OV} {acc : List V} {bs : List Addr} {σ2 : St}
    (I : LI cl Bq H1 σ A0 q ws D step items os env2 i Hh ei Ai done rest acc bs) (rel : Rel cl Bq H4 σ2 e2 A4) (hw : wipe σ2 ws = wipe σ ws) (calm : calmAt e2 ws = true) (st : Stp Ai.flatten Hh A4.flatten H4)
    (quiet : q = true → A4 = Ai ∧ ∀ a u, Hh a = some u → H4 a = some u) (run : lcLoop step (items.drop (i + 1)) e2 = some (.ok rest, env2)) :
    LI cl Bq H1 σ A0 q ws D step items os env2 (i + 1) H4 e2 A4 done rest acc bs := by
  have nd := List.nodup_cons.mp I.nd
  have ndb := List.nodup_append.mp nd.2
  have hmb : ∀ a ∈ bs, MutU Hh a := RepOs.mut done I.rep
  have off : ∀ a ∈ D :: bs, a ∉ Ai.flatten := fun a h z => by
    rcases List.mem_cons.mp h with rfl | h
    · exact nd.1 (List.mem_append_right _ z)
    · exact ndb.2.2 a h a z rfl
  have som : ∀ a ∈ D :: bs, ∃ u, Hh a = some u := fun a h => by
    rcases List.mem_cons.mp h with rfl | h
    · exact ⟨_, I.at_⟩
    · obtain ⟨u, e, _⟩ := hmb a h
      exact ⟨u, e⟩
  have apart : ∀ a ∈ D :: bs, a ∉ A4.flatten := fun a h z => by
    rcases st.fresh a z with z | z
    · exact off a h z
    · obtain ⟨u, e⟩ := som a h
      rw [z] at e; cases e
  have fhh : FP Hh H4 := st.fp fun a h => I.rel.mut a h
  refine ⟨?_, run, I.sum, st.keep D _ I.at_ (off D List.mem_cons_self), ?_, ?_, I.dis, ?_, by have := I.len; omega, fun e => ?_⟩
  · have := rel.wiped calm
    rwa [hw] at this
  · exact RepOs.tr fhh done I.rep fun a u h z => st.keep a u z (off a (List.mem_cons_of_mem _ h))
  · refine List.nodup_cons.mpr ⟨fun z => ?_, List.nodup_append.mpr ⟨ndb.1, rel.nd, fun a h b hb e => apart a (List.mem_cons_of_mem _ h) (e ▸ hb)⟩⟩
    rcases List.mem_append.mp z with z | z
    · exact nd.1 (List.mem_append_left _ z)
    · exact apart D List.mem_cons_self z
  · refine I.stp.trans ⟨fun a u e n => st.keep a u e fun z => n (List.mem_cons_of_mem _ (List.mem_append_right _ z)), fun a h => ?_⟩
    rcases List.mem_cons.mp h with rfl | h
    · exact .inl List.mem_cons_self
    · rcases List.mem_append.mp h with h | h
      · exact .inl (List.mem_cons_of_mem _ (List.mem_append_left _ h))
      · rcases st.fresh a h with z | z
        · exact .inl (List.mem_cons_of_mem _ (List.mem_append_right _ z))
        · exact .inr z
  · obtain ⟨e1, k1⟩ := quiet e
    obtain ⟨e0, k0⟩ := I.qt e
    exact ⟨e1.trans e0, fun a u h => k1 a u (k0 a u h)⟩
end
end PTS

set_option linter.all false
set_option maxRecDepth 100000
/-! comprehensions: the rule -/
namespace PTS
open PySem L2 PT

def noW : WX := fun _ _ _ _ => False
section
variable {cl xc : Clt} {W : WX} {C : Cxt} {X : Cx}
variable {Bp : Addr → Prop} {H H' : Hp} {σ : St} {env : PT.Env} {A : List (List Addr)}
theorem wipe_nil {σ2 : St} {ws : List Nat} (h : Same ws (wipe σ ws) σ2) : wipe σ2 ws = wipe σ ws := h.wipe.trans (same_wipe σ ws).wipe
theorem lc_tLc {own : List (Str × Nat)} {tn : Tn} {k : ItK} {its : List ME} {m : ME} {mi : List ME} (hown : own.map (·.2) = tn.slots) {σ : St} {H : Hp} {Q : VK} (h : TEv cl xc W C (.lc m tn k its mi) σ H Q) : tLc (ItR cl xc W C k its) (gT X.K tn) (TT' cl xc noW (quiets mi) (evTs C mi)) (TEv cl xc noW C m) (own.map (·.2)) σ H Q := by
    rw [hown]
    obtain ⟨Bp, env, A, c, env', R, e, kq⟩ := h
    have hq : quiet (.lc m tn k its mi) = true → quiet m = true ∧ quiets its = true ∧ quiets mi = true := fun e => by
      simp only [quiet, Bool.and_eq_true] at e
      exact ⟨e.1.1, e.1.2, e.2⟩
    rcases M.bind_some e with ⟨x, e1, h1, h2⟩ | ⟨rs, env1, h1, h2⟩
    · cases h2
      exact ⟨Bp, env, A, _, _, R, h1, kq⟩
    · unfold lcE at h2
      cases ei : itemsOf k rs with
      | none => rw [ei] at h2; cases h2
      | some items =>
        rw [ei] at h2
        simp only at h2
        split at h2
        · rename_i hcalm
          simp only [Bool.and_eq_true, decide_eq_true_eq] at hcalm
          obtain ⟨calm0, hlen⟩ := hcalm
          split at h2
          · rename_i os env2 hloop
            obtain ⟨env3, hun, hc3⟩ := map_some' h2
            cases hc3
            refine ⟨Bp, env, A, _, _, R, h1, items, ei, fun J vs P us H1 A1 as bp go p0 st it D hD => ?_⟩
            have R0 := bp.rel.lock (rootOf rs) bp.sep bp.rvs.mut
            have vl : vs.length = items.length := it.length
            let Bq := lkB Bp A1 (rootOf rs) as
            let A0 := lockA A1 (rootOf rs)
            let body : M (Option OV) := M.bind (evTs C mi) fun p => if p then M.bind ((ev C m).1) lcOwn else M.pure none
            let q := quiet m && quiets mi
            let LIa := fun (i : Nat) (Hh : Hp) => ∃ ei Ai done rest acc bs, LI cl Bq H1 σ A0 q tn.slots D (lcStep tn body) items os env2 i Hh ei Ai done rest acc bs
            have fh : ∀ {i Hh}, LIa i Hh → FP H1 Hh ∧ ∀ a u, Bq a → H1 a = some u → Hh a = some u := fun {i Hh} ⟨ei, Ai, done, rest, acc, bs, I⟩ => ⟨I.stp.fp R0.mut, fun a u b h => I.stp.keep a u h fun z => R0.dis a z b⟩
            refine ⟨fun i n Hh => n = items.length - i ∧ i ≤ items.length ∧ LIa i Hh, ⟨items.length, by simp, Nat.zero_le _, ?_⟩, ?_⟩
            · refine ⟨lockE env1 (rootOf rs), A0, [], os, [], [], ⟨(R0.all (upd_all hD)).wiped calm0, hloop, rfl, upd_same, rfl, ?_, fun a h b => ?_, ⟨fun a u h n => upd_all hD a u h, fun a h => ?_⟩, Nat.zero_le _, fun _ => ⟨rfl, upd_all hD⟩⟩⟩
              · refine List.nodup_cons.mpr ⟨fun z => ?_, R0.nd⟩
                obtain ⟨u, e, _⟩ := R0.mut D z
                rw [hD] at e; cases e
              · have : a = D := by simpa using h
                subst this
                obtain ⟨u, e⟩ := R0.bpt a b
                rw [hD] at e; cases e
              · rcases List.mem_cons.mp h with rfl | h
                · exact .inr hD
                · exact .inl h
            · rintro i n Hh ⟨rfl, hil, I⟩
              have hP : P Hh := st H1 Hh p0 (fh I).1 (fh I).2
              by_cases hlt : i < items.length
              · right
                obtain ⟨v, hv, sv⟩ := (it.keep (fh I).1 (fh I).2).at (i := i) (List.getElem?_eq_getElem hlt)
                obtain ⟨g1, g2⟩ := go.turn Hh i v hP hv
                refine ⟨g1, LIa (i + 1), fun H' z => ⟨items.length - (i + 1), by omega, rfl, hlt, z⟩, fun x H' y => ?_⟩
                obtain ⟨e1, e2⟩ := g2 x H' y
                subst e1 e2
                obtain ⟨ei, Ai, done, rest, acc, bs, I⟩ := I
                have run := I.run
                rw [List.drop_eq_getElem_cons hlt] at run
                rcases M.bind_some run with ⟨x, e1, r1, r2⟩ | ⟨y, e2, r1, r2⟩
                · cases r2
                · rcases M.bind_some r2 with ⟨x, e1, s1, s2⟩ | ⟨rest', e3, s1, s2⟩
                  · cases s2
                  · simp only [M.pure, Option.some.injEq, Prod.mk.injEq, Except.ok.injEq] at s2
                    obtain ⟨er, rfl⟩ := s2
                    unfold lcStep at r1
                    cases hb : bindT tn items[i] (wipeE ei tn.slots) with
                    | none => rw [hb] at r1; cases r1
                    | some env4 =>
                      rw [hb] at r1
                      simp only at r1
                      split at r1
                      · rename_i y' env5 hbody
                        split at r1
                        · rename_i hcalm2
                          simp only [Option.some.injEq, Prod.mk.injEq, Except.ok.injEq] at r1
                          obtain ⟨rfl, rfl⟩ := r1
                          refine bindT_ok (K := X.K) tn I.rel sv I.rel.nd (fun a h => absurd h List.not_mem_nil) hb fun σ2 A2 R2 same sub hA => ⟨wipe_nil same, ?_⟩
                          have hA : A2 = Ai := hA rfl fun j hj => I.rel.calmA (by rw [at_wipeE, if_pos hj]; rfl)
                          subst hA
                          rcases M.bind_some hbody with ⟨x, e5, t1, t2⟩ | ⟨p, e5, t1, t2⟩
                          · cases t2
                          · refine ⟨Bq, env4, A2, _, _, R2, t1, fun H3 A3 tp => ?_⟩
                            cases p with
                            | true =>
                              simp only [if_true] at t2 ⊢
                              rcases M.bind_some t2 with ⟨x, e6, u1, u2⟩ | ⟨r6, e6, u1, u2⟩
                              · cases u2
                              · refine ⟨Bq, e5, A3, _, _, tp.rel, u1, fun v4 H4 A4 as4 p4 => ?_⟩
                                cases r6 with
                                | bor j o => simp [lcOwn, M.stuck] at u2
                                | own o =>
                                  simp only [lcOwn, M.pure, Option.some.injEq, Prod.mk.injEq, Except.ok.injEq] at u2
                                  obtain ⟨rfl, rfl⟩ := u2
                                  have nx := LI.next hD I p4.rel (wipe_nil same) hcalm2 p4.rv p4.sep p4.dis (tp.stp.trans p4.stp) (fun e => by
                                    obtain ⟨e7, k7⟩ := tp.quiet (by simpa [q] using (show (quiet m && quiets mi) = true from e) |> fun z => by simp only [Bool.and_eq_true] at z; exact z.2)
                                    obtain ⟨e8, k8⟩ := p4.quiet (by have z : (quiet m && quiets mi) = true := e; simp only [Bool.and_eq_true] at z; exact z.1)
                                    exact ⟨e8.trans e7, fun a u h => k8 a u (k7 a u h)⟩) s1 er.symm
                                  refine ⟨acc, nx.1, ?_, _, _, _, _, _, _, nx.2⟩
                                  have l1 := I.len
                                  rw [← line_eq]
                                  omega
                            | false =>
                              simp only [Bool.false_eq_true, if_false] at t2 ⊢
                              simp only [M.pure, Option.some.injEq, Prod.mk.injEq, Except.ok.injEq] at t2
                              obtain ⟨rfl, rfl⟩ := t2
                              simp only at er
                              subst er
                              exact ⟨_, _, _, _, _, _, LI.skip I tp.rel (wipe_nil same) hcalm2 tp.stp (fun e => tp.quiet (by have z : (quiet m && quiets mi) = true := e; simp only [Bool.and_eq_true] at z; exact z.2)) s1⟩
                        · cases r1
                      · cases r1
              · have hi : i = items.length := by omega
                subst hi
                left
                refine ⟨by rw [← vl]; exact go.stop Hh hP, ?_⟩
                have fk := fh I
                obtain ⟨ei, Ai, done, rest, acc, bs, I⟩ := I
                have run := I.run
                rw [List.drop_length] at run
                cases run
                have R3 := R0.restored I.rel calm0 fk.1 fk.2
                obtain ⟨R4, hA4⟩ := bp.rel.unlocked R3 fk.1 fk.2 rfl (fun _ _ => rfl) hun
                have nd := List.nodup_cons.mp I.nd
                have ndb := List.nodup_append.mp nd.2
                have eos : done = os := by have := I.sum; simpa using this
                subst eos
                refine kq (.ref D) Hh _ (D :: bs) ⟨R4, ?_, ?_, fun a h b => I.dis a h (.inl (.inr b)), ?_, fun e => ?_⟩
                · show RepO cl .own Hh (.ref D) (.lst done) (D :: bs)
                  simp only [RepO, Nd]
                  exact ⟨D, acc, bs, rfl, I.at_, rfl, I.rep⟩
                · refine List.nodup_append.mpr ⟨List.nodup_cons.mpr ⟨fun z => nd.1 (List.mem_append_left _ z), ndb.1⟩, R4.nd, fun a h b hb e => ?_⟩
                  subst e
                  rcases hA4 a hb with z | z
                  · rcases List.mem_cons.mp h with rfl | h
                    · exact nd.1 (List.mem_append_right _ z)
                    · exact ndb.2.2 a h a z rfl
                  · exact I.dis a h (.inl (.inl z))
                · refine ((bp.stp.less fun a h => List.mem_append_right _ (lockA_sub h)).trans I.stp).keep |> fun kp => ⟨kp, fun a h => ?_⟩
                  have fr : ∀ a ∈ D :: (bs ++ Ai.flatten), a ∈ A.flatten ∨ H a = none := fun a h => ((bp.stp.less fun a h => List.mem_append_right _ (lockA_sub h)).trans I.stp).fresh a h
                  rcases List.mem_append.mp h with h | h
                  · refine fr a ?_
                    rcases List.mem_cons.mp h with rfl | h
                    · exact List.mem_cons_self
                    · exact List.mem_cons_of_mem _ (List.mem_append_left _ h)
                  · rcases hA4 a h with z | z
                    · exact fr a (List.mem_cons_of_mem _ (List.mem_append_right _ z))
                    · refine bp.stp.fresh a (List.mem_append_right _ ?_)
                      cases hr : rootOf rs with
                      | none => rw [hr] at z; exact absurd z List.not_mem_nil
                      | some j => rw [hr] at z; exact mem_getD z
                · obtain ⟨q1, q2, q3⟩ := hq e
                  obtain ⟨e1, k1⟩ := bp.quiet q2
                  obtain ⟨e2, k2⟩ := I.qt (by show (quiet m && quiets mi) = true; rw [q1, q3]; rfl)
                  refine ⟨?_, fun a u h => k2 a u (k1 a u h)⟩
                  rw [← e1]
                  have : Ai = lockA A1 (rootOf rs) := e2
                  rw [this]
                  cases hr : rootOf rs with
                  | none => rfl
                  | some j =>
                    simp only [unlockA, lockA]
                    have e5 : A1.set j (A1.getD j []) = A1 := set_getD A1 j
                    cases ej : env1.at j with
                    | own o =>
                      simp only [List.set_set]
                      exact e5
                    | un =>
                      have z : A1.getD j [] = [] := bp.rel.calmA (by rw [ej]; rfl)
                      rw [z] at e5
                      exact e5
                    | bor o =>
                      have z : A1.getD j [] = [] := bp.rel.calmA (by rw [ej]; rfl)
                      rw [z] at e5
                      exact e5
          · cases h2
        · cases h2
theorem te_lc {elt tg iter : Expr} {ifs : List Expr} {scope : Scope} {own : List (Str × Nat)} {pos : Pos} {tn : Tn} {k : ItK} {its : List ME} {m : ME} {mi : List ME} (hc : X.calm = true) (hN : X.N.Nodup) (hi : PI X tg iter (ItR cl xc W C k its)) (ok : BlkOk X.N X.env.scope scope own) (hown : own.map (·.2) = tn.slots)
    (hg : ∀ (s : Shared) (H : Hp) (Cc : Addr) (cls : List (Str × Addr)) (fp : List Addr), PG (X.blk s H scope (compEnvC scope cls Cc X.env) fp) tg (gT X.K tn))
    (ht : ∀ (s : Shared) (H : Hp) (Cc : Addr) (cls : List (Str × Addr)) (fp : List Addr), PTs (X.blk s H scope (compEnvC scope cls Cc X.env) fp) ifs (TT' cl xc noW (quiets mi) (evTs C mi)))
    (he : ∀ (s : Shared) (H : Hp) (Cc : Addr) (cls : List (Str × Addr)) (fp : List Addr), PE (X.blk s H scope (compEnvC scope cls Cc X.env) fp) elt (TEv cl xc noW C m))
    (hs : ∀ x, foldedSetIterable iter X.env x = pure x) : PE X (.ListComp elt [⟨tg, iter, ifs, 0⟩] scope pos) (TEv cl xc W C (.lc m tn k its mi)) :=
  PE.imp (pe_lc hc hN hi ok hg ht he hs) fun σ H Q h => lc_tLc hown h
end
end PTS

set_option linter.all false
set_option maxRecDepth 100000
/-! statements -/
namespace PTS
open PySem L2 PT

structure SPost (cl : Clt) (Bp : Addr → Prop) (H : Hp) (σ : St) (A : List (List Addr)) (wr : List Nat) (env' : PT.Env) (σ' : St) (H' : Hp) (A' : List (List Addr)) : Prop where
  rel : Rel cl Bp H' σ' env' A'
  stp : Stp A.flatten H A'.flatten H'
  same : Same wr σ σ'
def EndsOk (cl xc : Clt) (W : WX) (D : Ends) (Bp : Addr → Prop) (H : Hp) (σ : St) (A : List (List Addr)) (wr : List Nat) (o : Out) (env' : PT.Env) : Prop :=
  match o with
  | .nx => ∀ σ' H' A', SPost cl Bp H σ A wr env' σ' H' A' → D.nx σ' H'
  | .br => ∀ σ' H' A', SPost cl Bp H σ A wr env' σ' H' A' → D.bk σ' H'
  | .ct => ∀ σ' H' A', SPost cl Bp H σ A wr env' σ' H' A' → D.ct σ' H'
  | .rt r => ∀ v σ' H' A' as, SPost cl Bp H σ A wr env' σ' H' A' → RepO cl .own H' v r as → (as ++ A'.flatten).Nodup → (∀ a ∈ as, ¬ Bp a) → Stp A.flatten H (as ++ A'.flatten) H' → D.rt v H'
  | .ex x => ∀ cls d σ' H' A', SPost cl Bp H σ A wr env' σ' H' A' → XcOk cl xc H' x cls d → W cls d σ' H'
def TSd (cl xc : Clt) (W : WX) (wr : List Nat) (f : SM) : TS := fun D σ H => ∃ Bp env A o env', Rel cl Bp H σ env A ∧ f env = some (o, env') ∧ EndsOk cl xc W D Bp H σ A wr o env'
abbrev TSv (cl xc : Clt) (W : WX) (C : Cxt) (m : MS) : TS := TSd cl xc W m.wr (evS C m)
abbrev TSs (cl xc : Clt) (W : WX) (C : Cxt) (ms : List MS) : TS := TSd cl xc W (wrs ms) (evSs C ms)

section
variable {cl xc : Clt} {W : WX} {C : Cxt} {X : Cx}
variable {Bp : Addr → Prop} {H H1 H' : Hp} {σ σ1 : St} {env env1 : PT.Env} {A A1 : List (List Addr)} {D : Ends} {wr wr1 wr2 : List Nat}
theorem SPost.after {env' : PT.Env} {σ' : St} {A' : List (List Addr)} (st : Stp A.flatten H A1.flatten H1) (s1 : Same wr1 σ σ1) (h1 : ∀ i ∈ wr1, i ∈ wr) (h2 : ∀ i ∈ wr2, i ∈ wr) (p : SPost cl Bp H1 σ1 A1 wr2 env' σ' H' A') : SPost cl Bp H σ A wr env' σ' H' A' :=
  ⟨p.rel, st.trans p.stp, s1.trans p.same h1 h2⟩
/-- the end's wishes behind a first part -/
theorem EndsOk.behind {o : Out} {env' : PT.Env} (st : Stp A.flatten H A1.flatten H1) (s1 : Same wr1 σ σ1) (h1 : ∀ i ∈ wr1, i ∈ wr) (h2 : ∀ i ∈ wr2, i ∈ wr) (E : EndsOk cl xc W D Bp H σ A wr o env') : EndsOk cl xc W D Bp H1 σ1 A1 wr2 o env' := by
  cases o with
  | nx => exact fun σ' H' A' p => E σ' H' A' (p.after st s1 h1 h2)
  | br => exact fun σ' H' A' p => E σ' H' A' (p.after st s1 h1 h2)
  | ct => exact fun σ' H' A' p => E σ' H' A' (p.after st s1 h1 h2)
  | rt r => exact fun v σ' H' A' as p ro nd dis st2 => E v σ' H' A' as (p.after st s1 h1 h2) ro nd dis (st.trans st2)
  | ex x => exact fun cls d σ' H' A' p xk => E cls d σ' H' A' (p.after st s1 h1 h2) xk
theorem sub_refl {l : List Nat} : ∀ i ∈ l, i ∈ l := fun _ h => h
theorem sub_nil {l : List Nat} : ∀ i ∈ ([] : List Nat), i ∈ l := fun _ h => absurd h List.not_mem_nil
theorem SPost.refl (R : Rel cl Bp H σ env A) : SPost cl Bp H σ A wr env σ H A := ⟨R, Stp.refl, Same.refl⟩
theorem TSd.wide {f : SM} (h : TSd cl xc W wr f D σ H) (hw : ∀ i ∈ wr2, i ∈ wr) : TSd cl xc W wr2 f D σ H := by
  obtain ⟨Bp, env, A, o, env', R, e, k⟩ := h
  exact ⟨Bp, env, A, o, env', R, e, k.behind Stp.refl Same.refl sub_nil hw (wr1 := [])⟩

theorem PS.imp {st : Stmt} {t t' : TS} (h : PS X st t) (k : ∀ D σ H, t' D σ H → t D σ H) : PS X st t' := ⟨fun pins s σ H D I q => h.run pins s σ H D I (k D σ H q)⟩
theorem PSs.imp {st : List Stmt} {t t' : TS} (h : PSs X st t) (k : ∀ D σ H, t' D σ H → t D σ H) : PSs X st t' := ⟨fun pins s σ H D I q => h.run pins s σ H D I (k D σ H q)⟩
theorem ts_nil : PSs X [] (TSs cl xc W C []) := PSs.imp pss_nil fun D σ H h => by
  obtain ⟨Bp, env, A, o, env', R, e, k⟩ := h
  cases e
  exact k σ H A (SPost.refl R)
/-- one after another -/
theorem seq_ts {f g : SM} (h : TSd cl xc W wr (f.seq g) D σ H) (h1 : ∀ i ∈ wr1, i ∈ wr) (h2 : ∀ i ∈ wr2, i ∈ wr) : TSd cl xc W wr1 f { D with nx := TSd cl xc W wr2 g D } σ H := by
  obtain ⟨Bp, env, A, o, env', R, e, k⟩ := h
  unfold SM.seq at e
  cases ef : f env with
  | none => rw [ef] at e; cases e
  | some q =>
    obtain ⟨o1, env1⟩ := q
    rw [ef] at e
    cases o1 with
    | nx => exact ⟨Bp, env, A, _, _, R, ef, fun σ1 H1 A1 p => ⟨Bp, env1, A1, o, env', p.rel, e, k.behind p.stp p.same h1 h2⟩⟩
    | _ =>
      cases e
      refine ⟨Bp, env, A, _, _, R, ef, ?_⟩
      exact k.behind (D := D) Stp.refl Same.refl sub_nil h1 (wr1 := [])
theorem ts_cons {st : Stmt} {rest : List Stmt} {m : MS} {ms : List MS} (h1 : PS X st (TSv cl xc W C m)) (h2 : PSs X rest (TSs cl xc W C ms)) : PSs X (st :: rest) (TSs cl xc W C (m :: ms)) :=
  PSs.imp (pss_cons h1 h2) fun D σ H h => seq_ts h (fun i z => by simp [wrs, z]) fun i z => by simp [wrs, z]
theorem ts_pass {pos : Pos} : PS X (.Pass pos) (TSv cl xc W C .pass) := PS.imp ps_pass fun D σ H h => by
  obtain ⟨Bp, env, A, o, env', R, e, k⟩ := h
  cases e
  exact k σ H A (SPost.refl R)
theorem ts_brk {pos : Pos} : PS X (.Break pos) (TSv cl xc W C .brk) := PS.imp ps_break fun D σ H h => by
  obtain ⟨Bp, env, A, o, env', R, e, k⟩ := h
  cases e
  exact k σ H A (SPost.refl R)
theorem ts_cnt {pos : Pos} : PS X (.Continue pos) (TSv cl xc W C .cnt) := PS.imp ps_continue fun D σ H h => by
  obtain ⟨Bp, env, A, o, env', R, e, k⟩ := h
  cases e
  exact k σ H A (SPost.refl R)
/-- an expression first -/
theorem st_te {q : Bool} {m : M RV} {f : RV → SM} {T : VK} (h : TSd cl xc W wr (m.st f) D σ H)
    (k : ∀ {Bp : Addr → Prop} {A : List (List Addr)} {r : RV} {env1 : PT.Env} {v : V} {H1 : Hp} {A1 : List (List Addr)} {as : List Addr} {o : Out} {env' : PT.Env}, EPost cl Bp H σ A q r env1 v H1 A1 as → f r env1 = some (o, env') → EndsOk cl xc W D Bp H σ A wr o env' → T v H1) : TM cl xc W q m σ H T := by
  obtain ⟨Bp, env, A, o, env', R, e, kk⟩ := h
  unfold M.st at e
  cases em : m env with
  | none => rw [em] at e; cases e
  | some c =>
    obtain ⟨c, env1⟩ := c
    rw [em] at e
    cases c with
    | error x =>
      cases e
      exact ⟨Bp, env, A, _, _, R, em, fun cls d H' A' z => kk cls d σ H' A' ⟨z.rel, z.stp, Same.refl⟩ z.xc⟩
    | ok r => exact ⟨Bp, env, A, _, _, R, em, fun v H1 A1 as p => k p e kk⟩
theorem st_tt {q : Bool} {m : M Bool} {f : Bool → SM} {T : Bool → Hp → Prop} (h : TSd cl xc W wr (m.st f) D σ H)
    (k : ∀ {Bp : Addr → Prop} {A : List (List Addr)} {r : Bool} {env1 : PT.Env} {H1 : Hp} {A1 : List (List Addr)} {o : Out} {env' : PT.Env}, TPost cl Bp H σ A q env1 H1 A1 → f r env1 = some (o, env') → EndsOk cl xc W D Bp H σ A wr o env' → T r H1) : TT' cl xc W q m σ H T := by
  obtain ⟨Bp, env, A, o, env', R, e, kk⟩ := h
  unfold M.st at e
  cases em : m env with
  | none => rw [em] at e; cases e
  | some c =>
    obtain ⟨c, env1⟩ := c
    rw [em] at e
    cases c with
    | error x =>
      cases e
      exact ⟨Bp, env, A, _, _, R, em, fun cls d H' A' z => kk cls d σ H' A' ⟨z.rel, z.stp, Same.refl⟩ z.xc⟩
    | ok r => exact ⟨Bp, env, A, _, _, R, em, fun H1 A1 p => k p e kk⟩
theorem EPost.st {q : Bool} {r : RV} {v : V} {as : List Addr} (p : EPost cl Bp H σ A q r env1 v H1 A1 as) : Stp A.flatten H A1.flatten H1 := p.stp.less fun _ h => List.mem_append_right _ h
theorem ts_expr {e : Expr} {m : ME} {pos : Pos} (he : PE X e (TEv cl xc W C m)) (hs : swapsWith e none pos.line X.env = pure false) : PS X (.Expr e pos) (TSv cl xc W C (.expr m)) :=
  PS.imp (ps_expr he hs) fun D σ H h => st_te h fun {Bp A r env1 v H1 A1 as o env'} p e k => by
    cases e
    exact k σ H1 A1 ⟨p.rel, p.st, Same.refl⟩
theorem asg_g {K : PySem.W.Frag} {t : Tn} {q : Bool} {r : RV} {v : V} {as : List Addr} {o : Out} {env' : PT.Env} (p : EPost cl Bp H σ A q r env1 v H1 A1 as) (e : asgT t r env1 = some (o, env')) (k : EndsOk cl xc W D Bp H σ A t.slots o env') : gT K t v σ H1 D.nx := by
  unfold asgT at e
  cases r with
  | bor j o => cases e
  | own ov =>
    simp only at e
    cases eb : bindT t (.own ov) env1 with
    | none => rw [eb] at e; cases e
    | some env2 =>
      rw [eb] at e
      cases e
      exact bindT_ok (K := K) t p.rel (r := .own ov) ⟨v, rfl, p.rv⟩ p.sep p.dis eb fun σ2 A2 R2 s2 h1 h2 => k σ2 H1 A2 ⟨R2, p.stp.less h1, s2⟩
theorem ts_asg {tg e : Expr} {t : Tn} {m : ME} {pos : Pos} (he : PE X e (TEv cl xc W C m)) (hg : PG X tg (gT X.K t)) (hs : swapsWithSole [tg] e pos.line X.env = pure false) (hw : swappedStores [tg] e X.env = pure none) (h1 : (assignEach [tg] X.env).map (·.2) = [assign tg X.env]) : PS X (.Assign [tg] e pos) (TSv cl xc W C (.asg t m)) :=
  PS.imp (ps_asg he hg hs hw h1) fun D σ H h => st_te h fun {Bp A r env1 v H1 A1 as o env'} p e k => asg_g p e k
/-- name = [.. for ..] on one line -/
theorem ts_setLc {i : Nat} {y : Str} {py : Pos} {elt tg iter : Expr} {ifs : List Expr} {scope : Scope} {own : List (Str × Nat)} {pos spos : Pos} {tn : Tn} {k : ItK} {its : List ME} {m : ME} {mi : List ME} (hc : X.calm = true) (hN : X.N.Nodup) (hy : X.N[i]? = some y) (hyl : X.env.scope.names.lookup y = some .local)
    (hsw : swapsWith (.ListComp elt [⟨tg, iter, ifs, 0⟩] scope pos) (some (.Name y py)) spos.line X.env = pure true) (hi : PI X tg iter (ItR cl xc W C k its)) (ok : BlkOk X.N X.env.scope scope own) (hown : own.map (·.2) = tn.slots)
    (hg : ∀ (s : Shared) (H : Hp) (Cc : Addr) (cls : List (Str × Addr)) (fp : List Addr), PG (X.blk s H scope (compEnvC scope cls Cc X.env) fp) tg (gT X.K tn))
    (ht : ∀ (s : Shared) (H : Hp) (Cc : Addr) (cls : List (Str × Addr)) (fp : List Addr), PTs (X.blk s H scope (compEnvC scope cls Cc X.env) fp) ifs (TT' cl xc noW (quiets mi) (evTs C mi)))
    (he : ∀ (s : Shared) (H : Hp) (Cc : Addr) (cls : List (Str × Addr)) (fp : List Addr), PE (X.blk s H scope (compEnvC scope cls Cc X.env) fp) elt (TEv cl xc noW C m))
    (hs : ∀ x, foldedSetIterable iter X.env x = pure x) : PS X (.Assign [.Name y py] (.ListComp elt [⟨tg, iter, ifs, 0⟩] scope pos) spos) (TSv cl xc W C (.asg (.nm i) (.lc m tn k its mi))) :=
  PS.imp (ps_setLc hc hN hy hyl hsw hi ok hg ht he hs) fun D σ H h => by
    have q : TEv cl xc W C (.lc m tn k its mi) σ H (fun x H1 => gName i x σ H1 D.nx) := st_te h fun {Bp A r env1 v H1 A1 as o env'} p e k => by
      have := asg_g (K := X.K) p e k
      simpa only [gT] using this
    exact lc_tLc hown q
theorem ts_ret {e : Expr} {m : ME} {pos : Pos} (he : PE X e (TEv cl xc W C m)) : PS X (.Return (some e) pos) (TSv cl xc W C (.ret (some m))) :=
  PS.imp (ps_ret he) fun D σ H h => st_te h fun {Bp A r env1 v H1 A1 as o env'} p e k => by
    cases r with
    | bor j o => cases e
    | own ov =>
      cases e
      exact k v σ H1 A1 as ⟨p.rel, p.st, Same.refl⟩ p.rv p.sep p.dis p.stp
theorem ts_retN {pos : Pos} : PS X (.Return none pos) (TSv cl xc W C (.ret none)) := PS.imp ps_retN fun D σ H h => by
  obtain ⟨Bp, env, A, o, env', R, e, k⟩ := h
  cases e
  exact k .non σ H A [] (SPost.refl R) (by simp only [RepO, RepF]; exact ⟨trivial, trivial⟩) (by simpa using R.nd) (fun a h => absurd h List.not_mem_nil) Stp.refl
theorem ts_if {c : Expr} {a b : List Stmt} {m : ME} {ma mb : List MS} {pos : Pos} (hc : L2.PT X c (TTv cl xc W C m)) (ha : PSs X a (TSs cl xc W C ma)) (hb : PSs X b (TSs cl xc W C mb)) : PS X (.If c a b pos) (TSv cl xc W C (.ite m ma mb)) :=
  PS.imp (ps_if hc ha hb) fun D σ H h => st_tt h fun {Bp A r env1 H1 A1 o env'} p e k => by
    cases r with
    | true => exact ⟨Bp, env1, A1, o, env', p.rel, e, k.behind p.stp Same.refl sub_nil (fun i z => by simp [MS.wr, z]) (wr1 := [])⟩
    | false => exact ⟨Bp, env1, A1, o, env', p.rel, e, k.behind p.stp Same.refl sub_nil (fun i z => by simp [MS.wr, z]) (wr1 := [])⟩
theorem ts_while {c : Expr} {b : List Stmt} {m : ME} {mb : List MS} {pos : Pos} (hp : PassesOwn (model X.prog X.w) X.A X.env X.xe) (hc : L2.PT X c (TTv cl xc W C m)) (hb : PSs X b (TSs cl xc W C mb)) : PS X (.While c b [] pos) (TSv cl xc W C (.while m mb)) :=
  PS.imp (ps_while hp hc hb) fun D σ H h => by
    refine ⟨fun n => TSd cl xc W (wrs mb) (whileL (evT C m) (evSs C mb) n) D, ⟨C.fuel, h⟩, fun n σ1 H1 h1 => ?_⟩
    cases n with
    | zero =>
      obtain ⟨Bp, env, A, o, env', R, e, k⟩ := h1
      cases e
    | succ n =>
      refine st_tt h1 fun {Bp A r env1 H2 A1 o env'} p e k => ?_
      cases r with
      | false =>
        simp only [Bool.false_eq_true, if_false] at e ⊢
        cases e
        exact k σ1 H2 A1 ⟨p.rel, p.stp, Same.refl⟩
      | true =>
        simp only [if_true] at e ⊢
        refine ⟨TSd cl xc W (wrs mb) (whileL (evT C m) (evSs C mb) n) D, fun σ' H' q => ⟨n, Nat.lt_succ_self n, q⟩, ?_⟩
        cases eb : evSs C mb env1 with
        | none => rw [eb] at e; cases e
        | some q =>
          obtain ⟨o1, env2⟩ := q
          rw [eb] at e
          refine ⟨Bp, env1, A1, o1, env2, p.rel, eb, ?_⟩
          have k := k.behind p.stp Same.refl sub_nil sub_refl (wr1 := [])
          cases o1 with
          | nx => exact fun σ' H' A' q => ⟨Bp, env2, A', o, env', q.rel, e, k.behind q.stp q.same sub_refl sub_refl⟩
          | ct => exact fun σ' H' A' q => ⟨Bp, env2, A', o, env', q.rel, e, k.behind q.stp q.same sub_refl sub_refl⟩
          | br => cases e; exact k
          | rt r => cases e; exact k
          | ex x => cases e; exact k
end
end PTS

set_option linter.all false
set_option maxRecDepth 100000
/-! loops over what is walked -/
namespace PTS
open PySem L2 PT

section
variable {cl xc : Clt} {W : WX} {C : Cxt} {X : Cx}
variable {Bp : Addr → Prop} {H H1 H' : Hp} {σ σ1 : St} {env env1 : PT.Env} {A A1 : List (List Addr)} {D : Ends} {wr wr1 wr2 : List Nat}
theorem rootA_sub {A : List (List Addr)} {r : Option Nat} {a : Addr} (h : a ∈ rootA A r) : a ∈ A.flatten := by
  cases r with
  | none => exact absurd h List.not_mem_nil
  | some j => exact mem_getD h
/-- the wishes within a walk -/
theorem EndsOk.unlock {o : Out} {envE env'' : PT.Env} {r : Option Nat} {as : List Addr} (R0 : Rel cl Bp H σ env A) (sep : (as ++ A.flatten).Nodup) (hm : ∀ a ∈ as, MutU H a) (hun : unlockE wr env r envE = some env'') (E : EndsOk cl xc W D Bp H σ A wr o env'') :
    EndsOk cl xc W D (lkB Bp A r as) H σ (lockA A r) wr o envE := by
  have RL := R0.lock r sep hm
  have go : ∀ {σ' : St} {H' : Hp} {A' : List (List Addr)}, SPost cl (lkB Bp A r as) H σ (lockA A r) wr envE σ' H' A' → SPost cl Bp H σ A wr env'' σ' H' (unlockA A env r A') ∧ ∀ a ∈ (unlockA A env r A').flatten, a ∈ A'.flatten ∨ a ∈ rootA A r := fun {σ' H' A'} p => by
    obtain ⟨R', h⟩ := R0.unlocked p.rel (p.stp.fp RL.mut) (fun a u b e => p.stp.keep a u e fun z => RL.dis a z b) p.same.1 p.same.2 hun
    refine ⟨⟨R', ⟨fun a u e n => p.stp.keep a u e fun z => n (lockA_sub z), fun a z => ?_⟩, p.same⟩, h⟩
    rcases h a z with z | z
    · rcases p.stp.fresh a z with z | z
      · exact .inl (lockA_sub z)
      · exact .inr z
    · exact .inl (rootA_sub z)
  cases o with
  | nx => exact fun σ' H' A' p => E σ' H' _ (go p).1
  | br => exact fun σ' H' A' p => E σ' H' _ (go p).1
  | ct => exact fun σ' H' A' p => E σ' H' _ (go p).1
  | ex x => exact fun cls d σ' H' A' p xk => E cls d σ' H' _ (go p).1 xk
  | rt ov =>
    intro v σ' H' A' as' p ro nd dis st
    obtain ⟨p', h⟩ := go p
    refine E v σ' H' _ as' p' ro (List.nodup_append.mpr ⟨(List.nodup_append.mp nd).1, p'.rel.nd, fun a ha b hb e => ?_⟩) (fun a h b => dis a h (.inl (.inr b))) ⟨fun a u e n => st.keep a u e fun z => n (lockA_sub z), fun a z => ?_⟩
    · subst e
      rcases h a hb with z | z
      · exact (List.nodup_append.mp nd).2.2 a ha a z rfl
      · exact dis a ha (.inl (.inl z))
    · have fr : a ∈ as' ++ A'.flatten → a ∈ A.flatten ∨ H a = none := fun z => (st.fresh a z).elim (fun z => .inl (lockA_sub z)) .inr
      rcases List.mem_append.mp z with z | z
      · exact fr (List.mem_append_left _ z)
      · rcases h a z with z | z
        · exact fr (List.mem_append_right _ z)
        · exact .inl (rootA_sub z)
/-- a row of values first -/
theorem st_row {m : List ME} {k : ItK} {f : List RV → SM} {R : It → Hp → Prop} (h : TSd cl xc W wr ((evBs C m).st f) D σ H)
    (hi : ∀ {rs : List RV} {env1 env' : PT.Env} {o : Out}, f rs env1 = some (o, env') → ∃ items, itemsOf k rs = some items)
    (kk : ∀ {Bp : Addr → Prop} {A : List (List Addr)} {rs items : List RV} {env1 : PT.Env} {vs us : List V} {J : It} {P : Hp → Prop} {H1 : Hp} {A1 : List (List Addr)} {as : List Addr} {o : Out} {env' : PT.Env}, itemsOf k rs = some items → BPost cl Bp H σ m A (quiets m) rs env1 us H1 A1 as → ItGo J vs P → P H1 → (∀ H1 H2, P H1 → FP H1 H2 → (∀ a u, lkB Bp A1 (rootOf rs) as a → H1 a = some u → H2 a = some u) → P H2) → ItemsOk cl (lkB Bp A1 (rootOf rs) as) H1 vs items → f rs env1 = some (o, env') → EndsOk cl xc W D Bp H σ A wr o env' → R J H1) : ItR cl xc W C k m σ H R := by
  obtain ⟨Bp, env, A, o, env', R0, e, E⟩ := h
  unfold M.st at e
  cases em : evBs C m env with
  | none => rw [em] at e; cases e
  | some c =>
    obtain ⟨c, env1⟩ := c
    rw [em] at e
    cases c with
    | error x =>
      cases e
      exact ⟨Bp, env, A, _, _, R0, em, fun cls d H' A' z => E cls d σ H' A' ⟨z.rel, z.stp, Same.refl⟩ z.xc⟩
    | ok rs =>
      obtain ⟨items, ei⟩ := hi e
      exact ⟨Bp, env, A, _, _, R0, em, items, ei, fun J vs P us H1 A1 as bp go p0 st it => kk ei bp go p0 st it e E⟩
theorem ts_for {tg iter : Expr} {b : List Stmt} {t : Tn} {k : ItK} {its : List ME} {mb : List MS} {pos : Pos} (hp : PassesOwn (model X.prog X.w) X.A X.env X.xe) (hc : X.calm = true) (hi : PI X tg iter (ItR cl xc W C k its)) (hg : PG X tg (gT X.K t)) (hb : PSs X b (TSs cl xc W C mb))
    (hs : ∀ x, foldedSetIterable iter X.env x = pure x) : PS X (.For tg iter b [] pos) (TSv cl xc W C (.for t k its mb)) :=
  PS.imp (ps_for hp hc hi hg hb hs) fun D σ H h => st_row h (fun {rs env1 env' o} e => by
    unfold forE at e
    cases ei : itemsOf k rs with
    | none => rw [ei] at e; cases e
    | some items => exact ⟨items, rfl⟩) fun {Bp A rs items env1 vs us J P H1 A1 as o env'} ei bp go p0 st it e E => by
    unfold forE at e
    rw [ei] at e
    simp only at e
    cases el : forL t (evSs C mb) items (lockE env1 (rootOf rs)) with
    | none => rw [el] at e; cases e
    | some q =>
      obtain ⟨o1, envE⟩ := q
      rw [el] at e
      obtain ⟨env2, hun, he⟩ := map_some' e
      simp only [Prod.mk.injEq] at he
      obtain ⟨rfl, rfl⟩ := he
      have RL := bp.rel.lock (rootOf rs) bp.sep bp.rvs.mut
      have E1 : EndsOk cl xc W D Bp H1 σ A1 (t.slots ++ wrs mb) o1 env2 := E.behind (bp.stp.less fun _ h => List.mem_append_right _ h) Same.refl sub_nil sub_refl (wr1 := [])
      have E2 := E1.unlock bp.rel bp.sep bp.rvs.mut hun
      have vl : vs.length = items.length := it.length
      refine ⟨fun i n σi Hi => n = items.length - i ∧ i ≤ items.length ∧ ∃ envi Ai, Rel cl (lkB Bp A1 (rootOf rs) as) Hi σi envi Ai ∧ forL t (evSs C mb) (items.drop i) envi = some (o1, envE) ∧ EndsOk cl xc W D (lkB Bp A1 (rootOf rs) as) Hi σi Ai (t.slots ++ wrs mb) o1 envE ∧ Stp (lockA A1 (rootOf rs)).flatten H1 Ai.flatten Hi,
        ⟨items.length, by simp, Nat.zero_le _, _, _, RL, el, E2, Stp.refl⟩, ?_⟩
      rintro i n σi Hi ⟨rfl, hil, envi, Ai, Ri, ri, Ei, si⟩
      have fi : FP H1 Hi := si.fp RL.mut
      have ki : ∀ a u, lkB Bp A1 (rootOf rs) as a → H1 a = some u → Hi a = some u := fun a u b e => si.keep a u e fun z => RL.dis a z b
      have hP : P Hi := st H1 Hi p0 fi ki
      by_cases hlt : i < items.length
      · right
        obtain ⟨v, hv, sv⟩ := (it.keep fi ki).at (i := i) (List.getElem?_eq_getElem hlt)
        obtain ⟨g1, g2⟩ := go.turn Hi i v hP hv
        refine ⟨g1, fun σ' H' => ∃ envi Ai, Rel cl (lkB Bp A1 (rootOf rs) as) H' σ' envi Ai ∧ forL t (evSs C mb) (items.drop (i + 1)) envi = some (o1, envE) ∧ EndsOk cl xc W D (lkB Bp A1 (rootOf rs) as) H' σ' Ai (t.slots ++ wrs mb) o1 envE ∧ Stp (lockA A1 (rootOf rs)).flatten H1 Ai.flatten H',
          fun σ' H' ⟨envi, Ai, q⟩ => ⟨items.length - (i + 1), by omega, rfl, hlt, envi, Ai, q⟩, fun x H' y => ?_⟩
        obtain ⟨e1, e2⟩ := g2 x H' y
        subst e1 e2
        rw [List.drop_eq_getElem_cons hlt] at ri
        unfold forL at ri
        cases eb : bindT t items[i] envi with
        | none => rw [eb] at ri; cases ri
        | some env3 =>
          rw [eb] at ri
          simp only at ri
          refine bindT_ok (K := X.K) t Ri sv Ri.nd (fun a h => absurd h List.not_mem_nil) eb fun σ2 A2 R2 s2 hsub hA => ?_
          have hst : Stp Ai.flatten H' A2.flatten H' := ⟨fun a u e _ => e, fun a h => .inl (hsub a h)⟩
          cases ebody : evSs C mb env3 with
          | none => rw [ebody] at ri; cases ri
          | some q =>
            obtain ⟨o2, env4⟩ := q
            rw [ebody] at ri
            have Ei2 := Ei.behind hst s2 (fun i z => List.mem_append_left _ z) (fun i z => List.mem_append_right _ z) (wr2 := wrs mb)
            have Ei3 := Ei.behind hst s2 (fun i z => List.mem_append_left _ z) sub_refl (wr2 := t.slots ++ wrs mb)
            refine ⟨_, env3, A2, o2, env4, R2, ebody, ?_⟩
            cases o2 with
            | nx => exact fun σ' H'' A' q => ⟨env4, A', q.rel, ri, Ei3.behind q.stp q.same (fun i z => List.mem_append_right _ z) sub_refl, si.trans (hst.trans q.stp)⟩
            | ct => exact fun σ' H'' A' q => ⟨env4, A', q.rel, ri, Ei3.behind q.stp q.same (fun i z => List.mem_append_right _ z) sub_refl, si.trans (hst.trans q.stp)⟩
            | br => cases ri; exact Ei2
            | rt r => cases ri; exact Ei2
            | ex x => cases ri; exact Ei2
      · have hi : i = items.length := by omega
        subst hi
        left
        refine ⟨by rw [← vl]; exact go.stop Hi hP, ?_⟩
        rw [List.drop_length] at ri
        cases ri
        exact Ei σi Hi Ai (SPost.refl Ri)
end
end PTS

set_option linter.all false
set_option maxRecDepth 100000
/-! changes of one's own data -/
namespace PTS
open PySem L2 PT

section
variable {cl xc : Clt} {W : WX} {C : Cxt} {X : Cx}
variable {Bp : Addr → Prop} {H H1 H' : Hp} {σ σ1 : St} {env env1 : PT.Env} {A A1 : List (List Addr)} {D : Ends} {wr wr1 wr2 : List Nat}
theorem nix_eq (n : Nat) (i : Int) : nix n i = ixN n i := by
  unfold nix ixN
  by_cases h : 0 ≤ i
  · rw [if_pos h, if_pos h]
    by_cases h1 : i.toNat < n
    · rw [if_pos h1, if_pos (by omega)]
    · rw [if_neg h1, if_neg (by omega)]
  · rw [if_neg h, if_neg h]
    by_cases h1 : 0 ≤ i + n
    · rw [if_pos h1, if_pos (by omega)]
    · rw [if_neg h1, if_neg (by omega)]
theorem RepOs.setAt {H : Hp} {w : V} {y : OV} {ts : List Addr} (hw : RepO cl .own H w y ts) : ∀ {vs : List V} {xs : List OV} {bs : List Addr} {j : Nat}, RepOs cl .own H vs xs bs → j < xs.length → ∃ bs', RepOs cl .own H (vs.set j w) (xs.set j y) bs' ∧ (∀ a ∈ bs', a ∈ ts ∨ a ∈ bs) ∧ ((ts ++ bs).Nodup → bs'.Nodup)
  | v :: vs, x :: xs, bs, 0, h, _ => by
    simp only [RepOs] at h
    obtain ⟨b, c, rfl, h1, h2⟩ := h
    refine ⟨ts ++ c, ?_, fun a h => ?_, fun nd => ?_⟩
    · simp only [List.set_cons_zero, RepOs]
      exact ⟨ts, c, rfl, hw, h2⟩
    · rcases List.mem_append.mp h with h | h
      · exact .inl h
      · exact .inr (List.mem_append_right _ h)
    · have n := List.nodup_append.mp nd
      exact List.nodup_append.mpr ⟨n.1, (List.nodup_append.mp n.2.1).2.1, fun a h b hb => n.2.2 a h b (List.mem_append_right _ hb)⟩
  | v :: vs, x :: xs, bs, j + 1, h, hj => by
    simp only [RepOs] at h
    obtain ⟨b, c, rfl, h1, h2⟩ := h
    obtain ⟨c', g1, g2, g3⟩ := RepOs.setAt hw (j := j) h2 (by simpa using hj)
    refine ⟨b ++ c', ?_, fun a h => ?_, fun nd => ?_⟩
    · simp only [List.set_cons_succ, RepOs]
      exact ⟨b, c', rfl, h1, g1⟩
    · rcases List.mem_append.mp h with h | h
      · exact .inr (List.mem_append_left _ h)
      · rcases g2 a h with h | h
        · exact .inl h
        · exact .inr (List.mem_append_right _ h)
    · have n := List.nodup_append.mp nd
      have n2 := List.nodup_append.mp n.2.1
      refine List.nodup_append.mpr ⟨n2.1, g3 (List.nodup_append.mpr ⟨n.1, n2.2.1, fun a h b hb => n.2.2 a h b (List.mem_append_right _ hb)⟩), fun a h b' hb => ?_⟩
      rcases g2 b' hb with z | z
      · exact fun e => n.2.2 b' z a (List.mem_append_left _ h) e.symm
      · exact n2.2.2 a h b' z
  | [], [], _, _, _, hj => absurd hj (Nat.not_lt_zero _)
  | [], _ :: _, _, _, h, _ => absurd h (by simp [RepOs])
  | _ :: _, [], _, _, h, _ => absurd h (by simp [RepOs])
theorem map_k1K_inj : ∀ {as bs : List K1}, as.map k1K = bs.map k1K → as = bs
  | [], [], _ => rfl
  | a :: as, b :: bs, h => by
    simp only [List.map_cons, List.cons.injEq] at h
    rw [k1K_inj h.1, map_k1K_inj h.2]
  | [], _ :: _, h => by simp at h
  | _ :: _, [], h => by simp at h
theorem KyK.eq {p q : Ky} {k : Key} (h1 : KyK p k) {a : K1} (e : q = .one a) : decide (k = k1K a) = (p == q) := by
  subst e
  cases p with
  | one b =>
    simp only [KyK] at h1
    subst h1
    by_cases h : b = a
    · subst h; simp
    · have : ¬ k1K b = k1K a := fun z => h (k1K_inj z)
      simp [this, h]
  | tup _ => exact h1.elim
theorem KyT.eq {p q : Ky} {k : List Key} (h1 : KyT p k) {a : List K1} (e : q = .tup a) : decide (k = a.map k1K) = (p == q) := by
  subst e
  cases p with
  | tup b =>
    simp only [KyT] at h1
    subst h1
    by_cases h : b = a
    · subst h; simp
    · have : ¬ b.map k1K = a.map k1K := fun z => h (map_k1K_inj z)
      simp [this, h]
  | one _ => exact h1.elim
/-! d[k] = v -/
theorem RepOk.any {m : Md} {H : Hp} {q : Ky} {a : K1} (eq : q = .one a) : ∀ {ks : List (Key × V)} {kvs : List (Ky × OV)} {bs : List Addr}, RepOk cl m H ks kvs bs → (ks.any fun kv => decide (kv.1 = k1K a)) = kvs.any fun p => p.1 == q
  | [], [], _, _ => rfl
  | p :: ks, (k, x) :: kvs, bs, h => by
    simp only [RepOk] at h
    obtain ⟨b, c, _, h0, _, h2⟩ := h
    simp only [List.any_cons]
    rw [h0.eq eq, RepOk.any eq h2]
  | [], _ :: _, _, h => absurd h (by simp [RepOk])
  | _ :: _, [], _, h => absurd h (by simp [RepOk])
theorem RepOt.any {m : Md} {H : Hp} {q : Ky} {a : List K1} (eq : q = .tup a) : ∀ {ks : List (List Key × V)} {kvs : List (Ky × OV)} {bs : List Addr}, RepOt cl m H ks kvs bs → (ks.any fun kv => decide (kv.1 = a.map k1K)) = kvs.any fun p => p.1 == q
  | [], [], _, _ => rfl
  | p :: ks, (k, x) :: kvs, bs, h => by
    simp only [RepOt] at h
    obtain ⟨b, c, _, h0, _, h2⟩ := h
    simp only [List.any_cons]
    rw [h0.eq eq, RepOt.any eq h2]
  | [], _ :: _, _, h => absurd h (by simp [RepOt])
  | _ :: _, [], _, h => absurd h (by simp [RepOt])
theorem RepOk.mapK {H : Hp} {q : Ky} {a : K1} {w : V} {t : PV} (eq : q = .one a) (hw : RepF cl H w t) : ∀ {ks : List (Key × V)} {kvs : List (Ky × OV)} {bs : List Addr}, RepOk cl .own H ks kvs bs → ∃ bs', RepOk cl .own H (ks.map fun kv => if kv.1 = k1K a then (kv.1, w) else kv) (kvs.map fun p => if p.1 == q then (p.1, .fz t) else p) bs' ∧ bs'.Sublist bs
  | [], [], bs, h => ⟨[], by simp [RepOk], by simp⟩
  | p :: ks, (k, x) :: kvs, bs, h => by
    simp only [RepOk] at h
    obtain ⟨b, c, rfl, h0, h1, h2⟩ := h
    obtain ⟨c', g1, g2⟩ := RepOk.mapK eq hw h2
    have e0 := h0.eq eq
    simp only [List.map_cons]
    by_cases hk : p.1 = k1K a
    · have hk' : (k == q) = true := by rw [← e0]; simp [hk]
      rw [if_pos hk, if_pos hk']
      refine ⟨[] ++ c', ?_, by simpa using g2.trans (List.sublist_append_right _ _)⟩
      simp only [RepOk]
      exact ⟨[], c', rfl, h0, by simp only [RepO]; exact ⟨trivial, hw⟩, g1⟩
    · have hk' : ¬ (k == q) = true := by rw [← e0]; simp [hk]
      rw [if_neg hk, if_neg hk']
      refine ⟨b ++ c', ?_, List.Sublist.append (List.Sublist.refl _) g2⟩
      simp only [RepOk]
      exact ⟨b, c', rfl, h0, h1, g1⟩
  | [], _ :: _, _, h => absurd h (by simp [RepOk])
  | _ :: _, [], _, h => absurd h (by simp [RepOk])
theorem RepOt.mapK {H : Hp} {q : Ky} {a : List K1} {w : V} {t : PV} (eq : q = .tup a) (hw : RepF cl H w t) : ∀ {ks : List (List Key × V)} {kvs : List (Ky × OV)} {bs : List Addr}, RepOt cl .own H ks kvs bs → ∃ bs', RepOt cl .own H (ks.map fun kv => if kv.1 = a.map k1K then (kv.1, w) else kv) (kvs.map fun p => if p.1 == q then (p.1, .fz t) else p) bs' ∧ bs'.Sublist bs
  | [], [], bs, h => ⟨[], by simp [RepOt], by simp⟩
  | p :: ks, (k, x) :: kvs, bs, h => by
    simp only [RepOt] at h
    obtain ⟨b, c, rfl, h0, h1, h2⟩ := h
    obtain ⟨c', g1, g2⟩ := RepOt.mapK eq hw h2
    have e0 := h0.eq eq
    simp only [List.map_cons]
    by_cases hk : p.1 = a.map k1K
    · have hk' : (k == q) = true := by rw [← e0]; simp [hk]
      rw [if_pos hk, if_pos hk']
      refine ⟨[] ++ c', ?_, by simpa using g2.trans (List.sublist_append_right _ _)⟩
      simp only [RepOt]
      exact ⟨[], c', rfl, h0, by simp only [RepO]; exact ⟨trivial, hw⟩, g1⟩
    · have hk' : ¬ (k == q) = true := by rw [← e0]; simp [hk]
      rw [if_neg hk, if_neg hk']
      refine ⟨b ++ c', ?_, List.Sublist.append (List.Sublist.refl _) g2⟩
      simp only [RepOt]
      exact ⟨b, c', rfl, h0, h1, g1⟩
  | [], _ :: _, _, h => absurd h (by simp [RepOt])
  | _ :: _, [], _, h => absurd h (by simp [RepOt])
theorem RepOk.snoc {m : Md} {H : Hp} {k : Key} {q : Ky} {v : V} {o : OV} {b : List Addr} (hk : KyK q k) (h : RepO cl m H v o b) : ∀ {ks : List (Key × V)} {kvs : List (Ky × OV)} {as : List Addr}, RepOk cl m H ks kvs as → RepOk cl m H (ks ++ [(k, v)]) (kvs ++ [(q, o)]) (as ++ b)
  | [], [], as, h2 => by
    simp only [RepOk] at h2
    subst h2
    simp only [List.nil_append, RepOk]
    exact ⟨b, [], by simp, hk, h, rfl⟩
  | p :: ks, (k', x) :: kvs, as, h2 => by
    simp only [RepOk] at h2
    obtain ⟨b1, c1, e, h0, h3, h4⟩ := h2
    subst e
    simp only [List.cons_append, RepOk]
    exact ⟨b1, c1 ++ b, by simp, h0, h3, RepOk.snoc hk h h4⟩
  | [], _ :: _, _, h2 => absurd h2 (by simp [RepOk])
  | _ :: _, [], _, h2 => absurd h2 (by simp [RepOk])
theorem RepOt.snoc {m : Md} {H : Hp} {k : List Key} {q : Ky} {v : V} {o : OV} {b : List Addr} (hk : KyT q k) (h : RepO cl m H v o b) : ∀ {ks : List (List Key × V)} {kvs : List (Ky × OV)} {as : List Addr}, RepOt cl m H ks kvs as → RepOt cl m H (ks ++ [(k, v)]) (kvs ++ [(q, o)]) (as ++ b)
  | [], [], as, h2 => by
    simp only [RepOt] at h2
    subst h2
    simp only [List.nil_append, RepOt]
    exact ⟨b, [], by simp, hk, h, rfl⟩
  | p :: ks, (k', x) :: kvs, as, h2 => by
    simp only [RepOt] at h2
    obtain ⟨b1, c1, e, h0, h3, h4⟩ := h2
    subst e
    simp only [List.cons_append, RepOt]
    exact ⟨b1, c1 ++ b, by simp, h0, h3, RepOt.snoc hk h h4⟩
  | [], _ :: _, _, h2 => absurd h2 (by simp [RepOt])
  | _ :: _, [], _, h2 => absurd h2 (by simp [RepOt])
theorem RepOk.length {m : Md} {H : Hp} : ∀ {vs : List (Key × V)} {ts : List (Ky × OV)} {as : List Addr}, RepOk cl m H vs ts as → vs.length = ts.length
  | [], [], _, _ => rfl
  | v :: vs, (k, t) :: ts, as, h => by
    simp only [RepOk] at h
    obtain ⟨b, c, _, _, _, h⟩ := h
    simp [RepOk.length h]
  | [], _ :: _, _, h => absurd h (by simp [RepOk])
  | _ :: _, [], _, h => absurd h (by simp [RepOk])
theorem RepOt.length {m : Md} {H : Hp} : ∀ {vs : List (List Key × V)} {ts : List (Ky × OV)} {as : List Addr}, RepOt cl m H vs ts as → vs.length = ts.length
  | [], [], _, _ => rfl
  | v :: vs, (k, t) :: ts, as, h => by
    simp only [RepOt] at h
    obtain ⟨b, c, _, _, _, h⟩ := h
    simp [RepOt.length h]
  | [], _ :: _, _, h => absurd h (by simp [RepOt])
  | _ :: _, [], _, h => absurd h (by simp [RepOt])
def rSet : TSet := fun o i v H Q => rSetL o i v H Q ∨ rSetD o i v H Q
theorem set_all (hu : X.A.units + 1 < cLine) : PSet X rSet := fun pins s σ H o i v ov iv u Q I ro ri rv h => h.elim (set_list pins s σ H o i v ov iv u Q I ro ri rv) (set_dict hu pins s σ H o i v ov iv u Q I ro ri rv)
/-- what a change leaves -/
structure Chg (cl : Clt) (H : Hp) (v : V) (y : OV) (as ts : List Addr) (H' : Hp) (as' : List Addr) : Prop where
  rep : RepO cl .own H' v y as'
  off : ∀ a, a ∉ as → H' a = H a
  fp : FP H H'
  sub : ∀ a ∈ as', a ∈ ts ∨ a ∈ as
  nd : as'.Nodup
theorem upd_fp {H : Hp} {a : Addr} {u w : HO} (e : H a = some u) (hu : isF u = false) : FP H (upd H a w) := fun b x h f => by
  rw [upd_ne fun z => ?_]
  · exact h
  · subst z
    rw [e] at h
    cases h
    rw [hu] at f
    cases f
theorem put_ok {v w k : V} {o y : OV} {t : PV} {ov : OV} {as ts : List Addr} (ro : RepO cl .own H v o as) (rw' : RepO cl .own H w ov ts) (nd : (ts ++ as).Nodup) (rk : RdT cl H k t) (e : putR t ov o = some ((), y)) : ∃ H' as', (∀ Q : Hp → Prop, Q H' → rSet v k w H Q) ∧ Chg cl H v y as ts H' as' := by
  cases o with
  | lst xs =>
    simp only [putR] at e
    cases t with
    | int i =>
      simp only at e
      obtain ⟨j, ej, e2⟩ := map_some' e
      simp only [Prod.mk.injEq, true_and] at e2
      subst e2
      simp only [RepO, Nd] at ro
      obtain ⟨a, vs, bs, rfl, ha, rfl, rs⟩ := ro
      rw [nix_eq] at ej
      have hj := (ixN_seq ej).2.1
      have nd2 : (ts ++ bs).Nodup := nd.sublist (List.Sublist.append (List.Sublist.refl _) (List.sublist_cons_self _ _))
      have hna : a ∉ ts ++ bs := fun z => by
        have n := List.nodup_append.mp nd
        rcases List.mem_append.mp z with z | z
        · exact n.2.2 a z a List.mem_cons_self rfl
        · exact (List.nodup_cons.mp n.2.1).1 z
      have fp : FP H (upd H a (.lst (vs.set j w))) := upd_fp ha rfl
      have k1 : ∀ b u, b ∈ ts ++ bs → H b = some u → upd H a (.lst (vs.set j w)) b = some u := fun b u hb e => by
            have hne : b ≠ a := fun z => hna (by rw [← z]; exact hb)
            rw [upd_ne hne]; exact e
      have rs2 := RepOs.tr (m' := .own) fp xs rs fun b u hb z => k1 b u (List.mem_append_right _ hb) z
      obtain ⟨bs', g1, g2, g3⟩ := RepOs.setAt (rw'.keep fp fun b u hb z => k1 b u (List.mem_append_left _ hb) z) rs2 hj
      refine ⟨upd H a (.lst (vs.set j w)), a :: bs', fun Q q => .inl ⟨a, vs, i, j, rfl, rd_int rk, ha, by rw [rs.length]; exact ej, q⟩, ?_, fun b h => upd_ne fun z => h (z ▸ List.mem_cons_self), fp, fun b h => ?_, List.nodup_cons.mpr ⟨fun z => hna ?_, g3 nd2⟩⟩
      · simp only [RepO, Nd]
        exact ⟨a, _, bs', rfl, upd_same, rfl, g1⟩
      · rcases List.mem_cons.mp h with rfl | h
        · exact .inr List.mem_cons_self
        · rcases g2 b h with h | h
          · exact .inl h
          · exact .inr (List.mem_cons_of_mem _ h)
      · rcases g2 a z with z | z
        · exact List.mem_append_left _ z
        · exact List.mem_append_right _ z
    | _ => cases e
  | dic T kvs =>
    simp only [putR] at e
    cases ek : t.key with
    | none => rw [ek] at e; cases e
    | some q =>
      rw [ek] at e
      simp only at e
      split at e
      · rename_i hc
        simp only [Bool.and_eq_true, beq_iff_eq, decide_eq_true_eq, Bool.or_eq_true, Bool.not_eq_true'] at hc
        obtain ⟨⟨hT, hlen⟩, hfz⟩ := hc
        simp only [Option.some.injEq, Prod.mk.injEq, true_and] at e
        subst e
        simp only [RepO] at ro
        obtain ⟨a, bs, rfl, rfl, ro⟩ := ro
        have nd2 : (ts ++ bs).Nodup := nd.sublist (List.Sublist.append (List.Sublist.refl _) (List.sublist_cons_self _ _))
        have hna : a ∉ ts ++ bs := fun z => by
          have n := List.nodup_append.mp nd
          rcases List.mem_append.mp z with z | z
          · exact n.2.2 a z a List.mem_cons_self rfl
          · exact (List.nodup_cons.mp n.2.1).1 z
        rcases rd_key rk ek with ⟨ka, eq, ev⟩ | ⟨ka, b, eq, ev, hb⟩
        · subst eq
          simp only [Ky.isT] at hT
          subst hT
          simp only [Bool.false_eq_true, if_false, Nd] at ro
          obtain ⟨ks, ha, rs⟩ := ro
          have fp : FP H (upd H a (.dK (putK ks (k1K ka) w))) := upd_fp ha rfl
          have k1 : ∀ b u, b ∈ ts ++ bs → H b = some u → upd H a (.dK (putK ks (k1K ka) w)) b = some u := fun b u hb e => by
            have hne : b ≠ a := fun z => hna (by rw [← z]; exact hb)
            rw [upd_ne hne]; exact e
          have rs2 := RepOk.tr (m' := .own) fp kvs rs fun b u hb z => k1 b u (List.mem_append_right _ hb) z
          have rw2 := rw'.keep fp fun b u hb z => k1 b u (List.mem_append_left _ hb) z
          have any := rs.any (q := .one ka) rfl
          have fin : ∃ bs', RepOk cl .own (upd H a (.dK (putK ks (k1K ka) w))) (putK ks (k1K ka) w) (setK (.one ka) ov kvs) bs' ∧ (∀ b ∈ bs', b ∈ ts ∨ b ∈ bs) ∧ bs'.Nodup := by
            by_cases hany : (kvs.any fun p => p.1 == Ky.one ka) = true
            · have hf : ov.isFz = true := hfz.elim id fun z => by rw [hany] at z; cases z
              cases ov with
              | fz t0 =>
                obtain ⟨e0, rf⟩ := RepO.fzF (m := .own) rw2
                obtain ⟨bs', g1, g2⟩ := rs2.mapK (q := .one ka) rfl rf
                refine ⟨bs', ?_, fun b h => .inr (g2.subset h), (List.nodup_append.mp nd2).2.1.sublist g2⟩
                unfold setK
                rw [if_pos hany]
                have : putK ks (k1K ka) w = ks.map fun kv => if kv.1 = k1K ka then (kv.1, w) else kv := by unfold putK; rw [if_pos (any.trans hany)]
                rw [this]
                rw [this] at g1
                exact g1
              | _ => cases hf
            · have : putK ks (k1K ka) w = ks ++ [(k1K ka, w)] := by unfold putK; rw [if_neg fun z => hany (any.symm.trans z)]
              refine ⟨bs ++ ts, ?_, fun b h => (List.mem_append.mp h).symm, (List.perm_append_comm.nodup_iff).mp nd2⟩
              unfold setK
              rw [if_neg hany, this]
              rw [this] at rs2 rw2
              exact RepOk.snoc (show KyK (.one ka) (k1K ka) from rfl) rw2 rs2
          obtain ⟨bs', g1, g2, g3⟩ := fin
          refine ⟨upd H a (.dK (putK ks (k1K ka) w)), a :: bs', fun Q q => .inr ⟨a, _, rfl, .inl ⟨ks, _, ha, ev, by rw [rs.length, ← line_eq]; exact hlen, rfl⟩, q⟩, ?_, fun b h => upd_ne fun z => h (z ▸ List.mem_cons_self), fp, fun b h => ?_, List.nodup_cons.mpr ⟨fun z => hna ?_, g3⟩⟩
          · simp only [RepO]
            refine ⟨a, bs', rfl, rfl, ?_⟩
            simp only [Bool.false_eq_true, if_false, Nd]
            exact ⟨_, upd_same, g1⟩
          · rcases List.mem_cons.mp h with rfl | h
            · exact .inr List.mem_cons_self
            · rcases g2 b h with h | h
              · exact .inl h
              · exact .inr (List.mem_cons_of_mem _ h)
          · rcases g2 a z with z | z
            · exact List.mem_append_left _ z
            · exact List.mem_append_right _ z
        · subst eq
          simp only [Ky.isT] at hT
          subst hT
          simp only [if_true, Nd] at ro
          obtain ⟨ks, ha, rs⟩ := ro
          have fp : FP H (upd H a (.dT (putK ks (ka.map k1K) w))) := upd_fp ha rfl
          have k1 : ∀ b u, b ∈ ts ++ bs → H b = some u → upd H a (.dT (putK ks (ka.map k1K) w)) b = some u := fun b u hb e => by
            have hne : b ≠ a := fun z => hna (by rw [← z]; exact hb)
            rw [upd_ne hne]; exact e
          have rs2 := RepOt.tr (m' := .own) fp kvs rs fun b u hb z => k1 b u (List.mem_append_right _ hb) z
          have rw2 := rw'.keep fp fun b u hb z => k1 b u (List.mem_append_left _ hb) z
          have any := rs.any (q := .tup ka) rfl
          have fin : ∃ bs', RepOt cl .own (upd H a (.dT (putK ks (ka.map k1K) w))) (putK ks (ka.map k1K) w) (setK (.tup ka) ov kvs) bs' ∧ (∀ b ∈ bs', b ∈ ts ∨ b ∈ bs) ∧ bs'.Nodup := by
            by_cases hany : (kvs.any fun p => p.1 == Ky.tup ka) = true
            · have hf : ov.isFz = true := hfz.elim id fun z => by rw [hany] at z; cases z
              cases ov with
              | fz t0 =>
                obtain ⟨e0, rf⟩ := RepO.fzF (m := .own) rw2
                obtain ⟨bs', g1, g2⟩ := rs2.mapK (q := .tup ka) rfl rf
                refine ⟨bs', ?_, fun b h => .inr (g2.subset h), (List.nodup_append.mp nd2).2.1.sublist g2⟩
                unfold setK
                rw [if_pos hany]
                have : putK ks (ka.map k1K) w = ks.map fun kv => if kv.1 = ka.map k1K then (kv.1, w) else kv := by unfold putK; rw [if_pos (any.trans hany)]
                rw [this]
                rw [this] at g1
                exact g1
              | _ => cases hf
            · have : putK ks (ka.map k1K) w = ks ++ [(ka.map k1K, w)] := by unfold putK; rw [if_neg fun z => hany (any.symm.trans z)]
              refine ⟨bs ++ ts, ?_, fun b h => (List.mem_append.mp h).symm, (List.perm_append_comm.nodup_iff).mp nd2⟩
              unfold setK
              rw [if_neg hany, this]
              rw [this] at rs2 rw2
              exact RepOt.snoc (show KyT (.tup ka) (ka.map k1K) from rfl) rw2 rs2
          obtain ⟨bs', g1, g2, g3⟩ := fin
          refine ⟨upd H a (.dT (putK ks (ka.map k1K) w)), a :: bs', fun Q q => .inr ⟨a, _, rfl, .inr ⟨ks, _, b, ha, ev, hb, by rw [rs.length, ← line_eq]; exact hlen, rfl⟩, q⟩, ?_, fun b h => upd_ne fun z => h (z ▸ List.mem_cons_self), fp, fun b h => ?_, List.nodup_cons.mpr ⟨fun z => hna ?_, g3⟩⟩
          · simp only [RepO]
            refine ⟨a, bs', rfl, rfl, ?_⟩
            simp only [if_true, Nd]
            exact ⟨_, upd_same, g1⟩
          · rcases List.mem_cons.mp h with rfl | h
            · exact .inr List.mem_cons_self
            · rcases g2 b h with h | h
              · exact .inl h
              · exact .inr (List.mem_cons_of_mem _ h)
          · rcases g2 a z with z | z
            · exact List.mem_append_left _ z
            · exact List.mem_append_right _ z
      · cases e
  | fz t0 => cases e
  | tup xs => cases e
  | ins c fs => cases e
/-- a slot's data has changed -/
theorem Rel.chg {i : Nat} {v : V} {y : OV} {ts as' : List Addr} (R : Rel cl Bp H σ env A) (hv : σ[i]? = some (some v)) (c : Chg cl H v y (A.getD i []) ts H' as') (nd : (ts ++ A.flatten).Nodup) (dis : ∀ a ∈ ts, ¬ Bp a) : Rel cl Bp H' σ (env.set i (.own y)) (A.set i as') ∧ Stp (ts ++ A.flatten) H (A.set i as').flatten H' := by
  have hi : i < env.length := by rw [R.len]; exact (List.getElem?_eq_some_iff.mp hv).1
  have no := nodup_out i R.nd
  have n0 := List.nodup_append.mp no
  have n1 := List.nodup_append.mp nd
  have R1 : Rel cl Bp H' σ (env.set i .un) (A.set i []) := (R.out i).to c.fp (fun a u h e => by rw [c.off a fun z => n0.2.2 a z a h rfl]; exact e) fun a u b e => by rw [c.off a fun z => R.dis a (mem_getD z) b]; exact e
  have sep : (as' ++ ((A.set i []).set i []).flatten).Nodup := by
    rw [List.set_set]
    refine List.nodup_append.mpr ⟨c.nd, n0.2.1, fun a h b hb e => ?_⟩
    subst e
    rcases c.sub a h with z | z
    · exact n1.2.2 a z a (set_sub A i a hb) rfl
    · exact n0.2.2 a z a hb rfl
  have R2 := R1.same_slot (i := i) (s := .own y) (as := as') (by rw [List.length_set]; exact hi) ⟨v, hv, c.rep⟩ sep fun a h b => by
    rcases c.sub a h with z | z
    · exact dis a z b
    · exact R.dis a (mem_getD z) b
  rw [List.set_set, List.set_set] at R2
  refine ⟨R2, fun a u e n => by rw [c.off a fun z => n (List.mem_append_right _ (mem_getD z))]; exact e, fun a h => .inl ?_⟩
  rcases mem_set h with h | h
  · rcases c.sub a h with z | z
    · exact List.mem_append_left _ z
    · exact List.mem_append_right _ (mem_getD z)
  · exact List.mem_append_right _ (set_sub A i a h)
end
end PTS

set_option linter.all false
set_option maxRecDepth 100000
/-! targets that are items, augmented names -/
namespace PTS
open PySem L2 PT

section
variable {cl xc : Clt} {W : WX} {C : Cxt} {X : Cx}
variable {Bp : Addr → Prop} {H H1 H' : Hp} {σ σ1 : St} {env env1 : PT.Env} {A A1 : List (List Addr)} {D : Ends} {wr wr1 wr2 : List Nat}
/-- a change at a name -/
theorem updP_var {α : Type} {f : OV → Option (α × OV)} {i : Nat} {env env' : PT.Env} {c : Except Ex α} (e : updP f (i, []) env = some (c, env')) : ∃ o a y, env.at i = .own o ∧ f o = some (a, y) ∧ c = .ok a ∧ env' = env.set i (.own y) := by
  unfold updP at e
  simp only [getP, setP] at e
  cases hs : env.at i with
  | un => rw [hs] at e; cases e
  | bor o => rw [hs] at e; cases e
  | own o =>
    rw [hs] at e
    simp only at e
    cases hf : f o with
    | none => rw [hf] at e; cases e
    | some q =>
      obtain ⟨a, y⟩ := q
      rw [hf] at e
      cases e
      exact ⟨o, a, y, rfl, hf, rfl, rfl⟩
/-- x[k] = v, x a name: the readings of x, of k, of the change -/
theorem put_at {i : Nat} {k : ME} {ov : OV} {v : V} {asv : List Addr} {c : Except Ex Unit} {env' : PT.Env} {Q : Hp → Prop} (R : Rel cl Bp H σ env A) (rv : RepO cl .own H v ov asv) (sep : (asv ++ A.flatten).Nodup) (dis : ∀ a ∈ asv, ¬ Bp a)
    (kk : match c with
      | .ok _ => ∀ H' A', Rel cl Bp H' σ env' A' → Stp (asv ++ A.flatten) H A'.flatten H' → Q H'
      | .error x => ∀ cls d H' A', XPost cl xc Bp H σ A x env' cls d H' A' → W cls d σ H') (e : putE C (.var i) k ov env = some (c, env')) :
    tVar i σ H fun w H1 => TEv cl xc W C k σ H1 fun ix H2 => rSet w ix v H2 Q := by
  unfold putE at e
  rcases M.bind_some e with ⟨x, e1, h1, h2⟩ | ⟨ip, e1, h1, h2⟩
  · obtain ⟨_, h, _⟩ := plVar_ok R (show plVar i env = _ from by simpa only [evP] using h1)
    cases h
  · obtain ⟨⟨w, hw⟩, h, rfl⟩ := plVar_ok R (show plVar i env = _ from by simpa only [evP] using h1)
    cases h
    simp only [List.isEmpty_nil, Bool.not_true, Bool.false_and, Bool.false_eq_true, if_false] at h2
    refine ⟨w, hw, ?_⟩
    rcases M.bind_some h2 with ⟨x, e2, g1, g2⟩ | ⟨r2, env2, g1, g2⟩
    · cases g2
      exact ⟨Bp, e1, A, _, _, R, g1, kk⟩
    · refine ⟨Bp, e1, A, _, _, R, g1, fun ix H2 A2 as2 p2 => ?_⟩
      obtain ⟨o, a, y, ho, hf, rfl, rfl⟩ := updP_var g2
      have q := p2.rel.slot i
      rw [ho] at q
      obtain ⟨w', hw', ro⟩ := q
      rw [hw] at hw'
      cases hw'
      have s0 := List.nodup_append.mp sep
      have s2 := List.nodup_append.mp p2.sep
      have f := p2.stp.fp R.mut
      have off : ∀ a ∈ asv, a ∉ as2 ++ A2.flatten := fun a h z => by
        rcases p2.stp.fresh a z with z | z
        · exact s0.2.2 a h a z rfl
        · obtain ⟨u, e, _⟩ := RepO.mut ov rv a h
          rw [z] at e; cases e
      have rv2 : RepO cl .own H2 v ov asv := rv.keep f fun a u h e => p2.stp.keep a u e fun z => s0.2.2 a h a z rfl
      have nd2 : (asv ++ A2.flatten).Nodup := List.nodup_append.mpr ⟨s0.1, s2.2.1, fun a h b hb e => off a h (e ▸ List.mem_append_right _ hb)⟩
      have nd1 : (asv ++ A2.getD i []).Nodup := List.nodup_append.mpr ⟨s0.1, (List.nodup_append.mp (nodup_out i p2.rel.nd)).1, fun a h b hb e => off a h (e ▸ List.mem_append_right _ (mem_getD hb))⟩
      obtain ⟨H', as', k1, c1⟩ := put_ok ro rv2 nd1 p2.rv.rd hf
      refine k1 _ ?_
      obtain ⟨R', st⟩ := p2.rel.chg hw c1 nd2 dis
      refine kk H' _ R' ?_
      have st0 : Stp (asv ++ A.flatten) H (asv ++ A2.flatten) H2 := ⟨fun a u e n => p2.stp.keep a u e fun z => n (List.mem_append_right _ z), fun a h => by
        rcases List.mem_append.mp h with h | h
        · exact .inl (List.mem_append_left _ h)
        · rcases p2.stp.fresh a (List.mem_append_right _ h) with z | z
          · exact .inl (List.mem_append_right _ z)
          · exact .inr z⟩
      exact st0.trans st
/-- a frozen value to a target -/
def TGx (cl xc : Clt) (W : WX) (wr : List Nat) (f : PV → M Unit) : TG := fun v σ H Q => ∃ Bp env A t c env', Rel cl Bp H σ env A ∧ RepF cl H v t ∧ f t env = some (c, env') ∧
  match c with
  | .ok _ => ∀ σ' H' A', SPost cl Bp H σ A wr env' σ' H' A' → Q σ' H'
  | .error x => ∀ cls d σ' H' A', SPost cl Bp H σ A wr env' σ' H' A' → XcOk cl xc H' x cls d → W cls d σ' H'
def TGxs (cl xc : Clt) (W : WX) (wr : List Nat) (f : List PV → M Unit) : TGs := fun vs σ H Q => ∃ Bp env A ts c env', Rel cl Bp H σ env A ∧ RepFs cl H vs ts ∧ f ts env = some (c, env') ∧
  match c with
  | .ok _ => ∀ σ' H' A', SPost cl Bp H σ A wr env' σ' H' A' → Q σ' H'
  | .error x => ∀ cls d σ' H' A', SPost cl Bp H σ A wr env' σ' H' A' → XcOk cl xc H' x cls d → W cls d σ' H'
theorem PG.imp {tg : Expr} {t t' : TG} (h : PG X tg t) (k : ∀ v σ H Q, t' v σ H Q → t v σ H Q) : PG X tg t' := ⟨fun pins s σ H v u Q I r q => h.run pins s σ H v u Q I r (k v σ H Q q)⟩
theorem PGs.imp {tg : List Expr} {t t' : TGs} (h : PGs X tg t) (k : ∀ v σ H Q, t' v σ H Q → t v σ H Q) : PGs X tg t' := ⟨fun pins s σ H v u Q I r q => h.run pins s σ H v u Q I r (k v σ H Q q)⟩
theorem tg_nm {i : Nat} {x : Str} {pos : Pos} (hN : X.N.Nodup) (hi : X.N[i]? = some x) (hx : Loc X.env.scope x) (hf : X.fn x = true ∨ X.env.scope.names.lookup x = some .local) : PG X (.Name x pos) (TGx cl xc W (MG.nm i).wr (asgE C (.nm i))) :=
  PG.imp (pg_name hN hi hx hf) fun v σ H Q h => by
    obtain ⟨Bp, env, A, t, c, env', R, rf, e, k⟩ := h
    simp only [asgE] at e
    split at e
    · rename_i hl
      cases e
      obtain ⟨A', R', h1, _⟩ := R.bind1 (r := own t) (as := []) ⟨v, rfl, by simp only [RepO]; exact ⟨trivial, rf⟩⟩ (by simpa using R.nd) (fun a h => absurd h List.not_mem_nil) hl
      exact k _ H A' ⟨R', ⟨fun _ _ h _ => h, fun a h => .inl (h1 a h)⟩, ⟨by rw [List.length_set], fun j hj => List.getElem?_set_ne fun z => hj (by simp [MG.wr, z])⟩⟩
    · cases e
theorem tg_sub {i : Nat} {x : Str} {ei : Expr} {k : ME} {p pos : Pos} (hu : X.A.units + 1 < cLine) (hN : X.N[i]? = some x) (hv : Vis X.env.scope x) (hd : (x == ("__debug__" : Str)) = false) (hcd : (x == ("__classdict__" : Str)) = false) (hk : PE X ei (TEv cl xc W C k))
    (ha : ∀ v, assign (.Subscript (.Name x p) ei pos) X.env v = (do
      let ov ← holding [v] (eval (.Name x p) X.env)
      let iv ← holding [v, ov] (eval ei X.env)
      standAt pos
      holding [v, ov, iv] (setItem ov iv v)
      release [v, ov, iv] [])) : PG X (.Subscript (.Name x p) ei pos) (TGx cl xc W (MG.sub (.var i) k).wr (asgE C (.sub (.var i) k))) :=
  PG.imp (pg_sub (pe_var hN hv hd hcd) hk (set_all hu) ha) fun v σ H Q h => by
    obtain ⟨Bp, env, A, t, c, env', R, rf, e, kk⟩ := h
    refine put_at (ov := .fz t) (asv := []) R (by simp only [RepO]; exact ⟨trivial, rf⟩) (by simpa using R.nd) (fun a h => absurd h List.not_mem_nil) ?_ (by simpa only [asgE] using e)
    cases c with
    | ok _ => exact fun H' A' R' st => kk σ H' A' ⟨R', by simpa using st, Same.refl⟩
    | error x => exact fun cls d H' A' z => kk cls d σ H' A' ⟨z.rel, z.stp, Same.refl⟩ z.xc
theorem tgs_nil : PGs X [] (TGxs cl xc W (wrGs []) (asgEs C [])) := PGs.imp pgs_nil fun vs σ H Q h => by
  obtain ⟨Bp, env, A, ts, c, env', R, rf, e, k⟩ := h
  cases ts with
  | nil =>
    cases vs with
    | nil =>
      simp only [asgEs, M.pure] at e
      cases e
      exact ⟨rfl, k σ H A (SPost.refl R)⟩
    | cons v vs => simp [RepFs] at rf
  | cons t ts => simp [asgEs, M.stuck] at e
theorem tgs_cons {e : Expr} {es : List Expr} {g : MG} {gs : List MG} (h1 : PG X e (TGx cl xc W g.wr (asgE C g))) (h2 : PGs X es (TGxs cl xc W (wrGs gs) (asgEs C gs)))
    (hs : (assignEach (e :: es) X.env).map (·.2) = assign e X.env :: (assignEach es X.env).map (·.2)) : PGs X (e :: es) (TGxs cl xc W (wrGs (g :: gs)) (asgEs C (g :: gs))) :=
  PGs.imp (pgs_cons h1 h2 hs) fun vs σ H Q h => by
    obtain ⟨Bp, env, A, ts, c, env', R, rf, e, k⟩ := h
    cases ts with
    | nil => simp [asgEs, M.stuck] at e
    | cons t ts =>
      cases vs with
      | nil => simp [RepFs] at rf
      | cons v vs =>
        simp only [RepFs] at rf
        refine ⟨v, vs, rfl, ?_⟩
        simp only [asgEs] at e
        rcases M.bind_some e with ⟨x, e1, g1, g2⟩ | ⟨_, env1, g1, g2⟩
        · cases g2
          refine ⟨Bp, env, A, t, _, _, R, rf.1, g1, fun cls d σ' H' A' p xk => k cls d σ' H' A' ⟨p.rel, p.stp, p.same.trans Same.refl (fun i z => by simp [wrGs, z]) sub_nil (ws := [])⟩ xk⟩
        · refine ⟨Bp, env, A, t, _, _, R, rf.1, g1, fun σ1 H1 A1 p1 => ⟨Bp, env1, A1, ts, c, env', p1.rel, RepFs.fp (p1.stp.fp R.mut) ts rf.2, g2, ?_⟩⟩
          have aft : ∀ {σ' : St} {H' : Hp} {A' : List (List Addr)}, SPost cl Bp H1 σ1 A1 (wrGs gs) env' σ' H' A' → SPost cl Bp H σ A (wrGs (g :: gs)) env' σ' H' A' := fun p => p.after p1.stp p1.same (fun i z => by simp [wrGs, z]) fun i z => by simp [wrGs, z]
          cases c with
          | ok _ => exact fun σ' H' A' p => k σ' H' A' (aft p)
          | error x => exact fun cls d σ' H' A' p xk => k cls d σ' H' A' (aft p) xk
theorem asgEs_len : ∀ {gs : List MG} {ts : List PV} {env env' : PT.Env} {c : Except Ex Unit}, (asgEs C gs ts env = some (c, env')) → (c = .ok ()) → ts.length = gs.length
  | [], [], _, _, _, _, _ => rfl
  | g :: gs, t :: ts, env, env', c, e, hc => by
    simp only [asgEs] at e
    rcases M.bind_some e with ⟨x, e1, g1, g2⟩ | ⟨_, env1, g1, g2⟩
    · cases g2; cases hc
    · simp [asgEs_len g2 hc]
  | [], _ :: _, _, _, _, e, _ => by simp [asgEs, M.stuck] at e
  | _ :: _, [], _, _, _, e, _ => by simp [asgEs, M.stuck] at e
theorem tg_tp {es : List Expr} {gs : List MG} {k : Nat} {pos : Pos} (hc : X.calm = true) (h : PGs X es (TGxs cl xc W (wrGs gs) (asgEs C gs))) (hn : (assignEach es X.env).length = gs.length) (hst : (assignEach es X.env).findIdx? (·.1) = none) : PG X (.Tuple es k pos) (TGx cl xc W (MG.tp gs).wr (asgE C (.tp gs))) :=
  PG.imp (pg_tup hc h hn hst) fun v σ H Q hh => by
    obtain ⟨Bp, env, A, t, c, env', R, rf, e, kk⟩ := hh
    cases t with
    | tup ts =>
      simp only [asgE] at e
      simp only [RepF] at rf
      obtain ⟨a, vs, ev, ha, rs⟩ := rf
      split at e
      · rename_i hlen
        refine ⟨a, vs, ev, .inl (.inl ha), by rw [rs.length]; exact hlen, Bp, env, A, ts, c, env', R, rs, e, ?_⟩
        simp only [MG.wr] at kk
        exact kk
      · cases e
    | _ => simp [asgE, M.stuck] at e
theorem ts_asgG {tg e : Expr} {g : MG} {m : ME} {pos : Pos} (he : PE X e (TEv cl xc W C m)) (hg : PG X tg (TGx cl xc W g.wr (asgE C g))) (hs : swapsWithSole [tg] e pos.line X.env = pure false) (hw : swappedStores [tg] e X.env = pure none) (h1 : (assignEach [tg] X.env).map (·.2) = [assign tg X.env]) : PS X (.Assign [tg] e pos) (TSv cl xc W C (.asgG g m)) :=
  PS.imp (ps_asg he hg hs hw h1) fun D σ H h => st_te h fun {Bp A r env1 v H1 A1 as o env'} p e k => by
    cases r with
    | bor j o => cases e
    | own ov =>
      cases ov with
      | fz t =>
        obtain ⟨e0, rf⟩ := RepO.fzF (m := .own) p.rv
        unfold M.st at e
        cases ea : asgE C g t env1 with
        | none => simp only [ea] at e; cases e
        | some q =>
          obtain ⟨c, env2⟩ := q
          simp only [ea] at e
          refine ⟨Bp, env1, A1, t, c, env2, p.rel, rf, ea, ?_⟩
          cases c with
          | ok _ =>
            cases e
            exact fun σ' H' A' q => k σ' H' A' (q.after p.st Same.refl sub_nil sub_refl (wr1 := []))
          | error x =>
            cases e
            exact fun cls d σ' H' A' q xk => k cls d σ' H' A' (q.after p.st Same.refl sub_nil sub_refl (wr1 := [])) xk
      | _ => cases e
theorem ts_put {i : Nat} {x : Str} {ei e : Expr} {k m : ME} {p pos spos : Pos} (hu : X.A.units + 1 < cLine) (hN : X.N[i]? = some x) (hv : Vis X.env.scope x) (hd : (x == ("__debug__" : Str)) = false) (hcd : (x == ("__classdict__" : Str)) = false) (hk : PE X ei (TEv cl xc W C k)) (he : PE X e (TEv cl xc W C m))
    (ha : ∀ v, assign (.Subscript (.Name x p) ei pos) X.env v = (do
      let ov ← holding [v] (eval (.Name x p) X.env)
      let iv ← holding [v, ov] (eval ei X.env)
      standAt pos
      holding [v, ov, iv] (setItem ov iv v)
      release [v, ov, iv] []))
    (hs : swapsWithSole [.Subscript (.Name x p) ei pos] e spos.line X.env = pure false) (hw : swappedStores [.Subscript (.Name x p) ei pos] e X.env = pure none) (h1 : (assignEach [.Subscript (.Name x p) ei pos] X.env).map (·.2) = [assign (.Subscript (.Name x p) ei pos) X.env]) : PS X (.Assign [.Subscript (.Name x p) ei pos] e spos) (TSv cl xc W C (.put (.var i) k m)) :=
  PS.imp (ps_asg he (pg_sub (pe_var hN hv hd hcd) hk (set_all hu) ha) hs hw h1) fun D σ H h => st_te h fun {Bp A r env1 v H1 A1 as o env'} p e kk => by
    cases r with
    | bor j o => cases e
    | own ov =>
      unfold M.st at e
      cases ea : putE C (.var i) k ov env1 with
      | none => simp only [ea] at e; cases e
      | some q =>
        obtain ⟨c, env2⟩ := q
        simp only [ea] at e
        refine put_at p.rel p.rv p.sep p.dis ?_ ea
        cases c with
        | ok _ =>
          cases e
          exact fun H' A' R' st => kk σ H' A' ⟨R', p.stp.trans st, Same.refl⟩
        | error x =>
          cases e
          exact fun cls d H' A' z => kk cls d σ H' A' ⟨z.rel, p.st.trans z.stp, Same.refl⟩ z.xc
end
end PTS

set_option linter.all false
set_option maxRecDepth 100000
/-! isinstance, join, dict displays -/
namespace PTS
open PySem L2 PT

section
variable {cl xc : Clt} {W : WX} {C : Cxt} {X : Cx}
variable {Bp : Addr → Prop} {H H1 H' : Hp} {σ σ1 : St} {env env1 : PT.Env} {A A1 : List (List Addr)} {D : Ends} {wr wr1 wr2 : List Nat}
/-! ### isinstance -/
theorem kit_rd {pins : List (Addr × Obj)} {s : Shared} {v : V} {u : Value} {t : PV} {T : String} (I : Inv X pins σ H s) (rx : RelV v u) (rd : RdT cl H v t) (e : tyN t = some T) : ∃ P : Heap → Prop, PySem.W.KitX X.K u (.type T) P ∧ P s.heap ∧ u ≠ .builtin "__main__.__loader__#opaque" := by
  cases t with
  | non =>
    cases e
    have := rd_non rd
    subst this
    cases (show u = Value.none from rx)
    exact ⟨_, PySem.W.kitx_none, trivial, fun z => nomatch z⟩
  | bl b =>
    cases e
    have := rd_bl rd
    subst this
    cases (show u = Value.bool b from rx)
    exact ⟨_, PySem.W.kitx_bool, trivial, fun z => nomatch z⟩
  | int i =>
    cases e
    have := rd_int rd
    subst this
    obtain ⟨t, rfl⟩ := rx
    exact ⟨_, PySem.W.kitx_int, trivial, fun z => nomatch z⟩
  | str x =>
    cases e
    have := rd_str rd
    subst this
    obtain ⟨t, rfl⟩ := rx
    exact ⟨_, PySem.W.kitx_str, trivial, fun z => nomatch z⟩
  | lst xs =>
    cases e
    simp only [RdT] at rd
    obtain ⟨a, vs, rfl, h1, _⟩ := rd
    cases (show u = Value.ref a from rx)
    obtain ⟨_, _, n, _, h⟩ := (show ObjOk X.prog X.w H s.heap a (.lst vs) from h1.ok I.hok)
    exact ⟨_, PySem.W.kitx_list, ⟨_, h, rfl⟩, fun z => nomatch z⟩
  | tup xs =>
    cases e
    simp only [RdT] at rd
    obtain ⟨a, vs, rfl, h1, _⟩ := rd
    cases (show u = Value.ref a from rx)
    obtain ⟨_, _, _, o, h1, h2, _⟩ := (show ObjOk X.prog X.w H s.heap a (.tup vs) from I.hok a _ h1)
    exact ⟨_, PySem.W.kitx_tuple, ⟨o, h1, h2⟩, fun z => nomatch z⟩
  | dic kvs =>
    cases e
    simp only [RdT] at rd
    obtain ⟨a, rfl, h⟩ := rd
    cases (show u = Value.ref a from rx)
    rcases h with ⟨ks, h1, _⟩ | ⟨ks, h1, _⟩
    · obtain ⟨_, _, vs, _, o, es, ep, h1, h2, _⟩ := (show ObjOk X.prog X.w H s.heap a (.dK ks) from h1.ok I.hok)
      exact ⟨_, PySem.W.kitx_dict, ⟨o, h1, h2.1⟩, fun z => nomatch z⟩
    · obtain ⟨_, _, xs, _, o, es, ep, h1, h2, _⟩ := (show ObjOk X.prog X.w H s.heap a (.dT ks) from h1.ok I.hok)
      exact ⟨_, PySem.W.kitx_dict, ⟨o, h1, h2.1⟩, fun z => nomatch z⟩
  | ins c fs => cases e
theorem isi_tab : ∀ T ∈ ["str", "int", "bool", "list", "tuple", "dict"], ∀ U ∈ ["NoneType", "bool", "int", "str", "list", "tuple", "dict"], kitB U T = some (U == T || (U == "bool" && T == "int")) := by decide +kernel
theorem tyN_mem {t : PV} {U : String} (e : tyN t = some U) : U ∈ ["NoneType", "bool", "int", "str", "list", "tuple", "dict"] := by
  cases t <;> cases e <;> simp
def rIsT (cl : Clt) (T : String) : List V → Hp → VK → Prop := fun xs H Q => ∃ v t b, xs = [v, .ty T] ∧ RdT cl H v t ∧ isiT T t = some b ∧ Q (.bl b) H
theorem cb_isi {T : String} : CallR X (.builtin "isinstance") (rIsT cl T) := by
  intro pins s σ H xs us Q I r h
  obtain ⟨v, t, b, rfl, rd, e, q⟩ := h
  obtain ⟨u1, u2, rfl, r1, r2⟩ := vals2 r
  cases (show u2 = Value.type T from r2)
  unfold isiT at e
  split at e
  · rename_i hT
    cases eU : tyN t with
    | none => rw [eU] at e; cases e
    | some U =>
      rw [eU] at e
      cases e
      obtain ⟨P, Z, p, hx⟩ := kit_rd I r1 rd eU
      exact PySem.W.kia_one Z I.kIn p (kit_ty (isi_tab T (by simpa using hT) U (tyN_mem eU))) hx fun tk => ⟨.bl _, H, I.tok tk, rfl, q⟩
  · cases e
theorem te_isi {T : String} {x : Str} {e : Expr} {p p2 pos : Pos} {m : ME} (hm' : ∀ i, m ≠ .io i) (hgl : Gl X "isinstance") (hm : X.mg "isinstance" = none) (hgT : Gl X x) (hmT : X.mg x = none) (hvT : bootBuiltins x = some (.type T)) (hn : x ≠ "__name__") (hdT : (x == ("__debug__" : Str)) = false)
    (he : PE X e (TEv cl xc W C m)) (hs : starEach [e, .Name x p2] X.env = (false, eval e X.env) :: starEach [.Name x p2] X.env) (hs2 : starEach [.Name x p2] X.env = (false, eval (.Name x p2) X.env) :: starEach [] X.env) (hpl : (backTo pos (starEach [.Name x p2] X.env)).any (·.1) = false) :
    PE X (.Call (.Name "isinstance" p) [e, .Name x p2] [] pos) (TEv cl xc W C (.bi (.isi T) [m])) :=
  PE.imp (pe_callB (cb_isi (cl := cl) (T := T)) hgl hm rfl (pa_cons he (pa_cons (pe_bltn hgT hmT hvT (v := .ty T) rfl hn hdT) pa_nil hs2) hs) (by decide) rfl hs hpl) fun σ H Q h => by
    obtain ⟨Bp, env, A, c, env', R, e, kq⟩ := h
    rcases M.bind_some e with ⟨x, e1, h1, h2⟩ | ⟨rs, env1, h1, h2⟩
    · cases h2
      exact row1 hm' R h1 kq
    · obtain ⟨r, rfl⟩ := evBs_one h1
      refine row1 hm' R h1 ⟨r, rfl, fun v H' A' as p bp => ?_⟩
      simp only [M.lift, biR, List.map_cons, List.map_nil, biT] at h2
      cases q : isiT T r.t with
      | none => rw [q] at h2; cases h2
      | some b =>
        rw [q] at h2
        cases h2
        refine ⟨v, r.t, b, rfl, p.rv.rd, q, kq _ H' A' [] (bp.al (o := .fz (.bl b)) (.fz (by simp only [RepF])))⟩

/-! ### join -/
theorem joinTx_eq (a : Tx) : ∀ ys : List Tx, Txt.join (tS a) (ys.map tS) = tS (joinTx a ys) := fun ys => by
  rw [TL.join_eq]
  have key : ∀ ys : List Tx, TL.tl (Str.join (tS a) (ys.map tS)) = joinTx a ys := fun ys => by
    rw [TL.tl_join]
    have e : (ys.map tS).map TL.tl = ys := by
      rw [List.map_map]
      conv => rhs; rw [← List.map_id ys]
      apply List.map_congr_left
      intro x _
      simp [TL.tl, tS]
    rw [e]
    induction ys with
    | nil => rfl
    | cons x r ih =>
      cases r with
      | nil => rfl
      | cons y r =>
        simp only [TL.joinL, joinTx]
        rw [ih (by simp only [List.map_cons, List.cons.injEq] at e; simpa only [List.map_cons, List.cons.injEq] using e.2)]
        simp [TL.tl, tS]
  have := key ys
  have inj : ∀ s t : Str, TL.tl s = TL.tl t → s = t := fun s t h => by
    cases s; cases t
    simp only [TL.tl] at h
    simpa using h
  apply inj
  rw [this]
  simp [TL.tl, tS]
theorem all_strs : ∀ {ts : List PV} {ys : List Tx} {vs : List V} {H : Hp}, allStr ts = some ys → RdTs cl H vs ts → vs = (ys.map tS).map V.str
  | [], ys, vs, H, e, h => by
    cases e
    cases vs with
    | nil => rfl
    | cons v vs => simp [RdTs] at h
  | t :: ts, ys, vs, H, e, h => by
    cases t with
    | str x =>
      simp only [allStr] at e
      cases q : allStr ts with
      | none => rw [q] at e; cases e
      | some zs =>
        rw [q] at e
        cases e
        cases vs with
        | nil => simp [RdTs] at h
        | cons v vs =>
          simp only [RdTs] at h
          rw [rd_str h.1, all_strs q h.2]
          rfl
    | _ => simp [allStr] at e
theorem tS_sum (ys : List Tx) : ((ys.map tS).map (·.length)).sum = (ys.map List.length).sum := by
  congr 1
  rw [List.map_map]
  apply List.map_congr_left
  intro x _
  simp [tS_len]
theorem te_join {o e : Expr} {a m : ME} {apos pos : Pos} (hm' : ∀ i, m ≠ .io i) (ho : PE X o (TEv cl xc W C a)) (he : PE X e (TEv cl xc W C m)) (hs : starEach [e] X.env = [(false, eval e X.env)]) (hbase : attributeBase o "join" X.env (eval o X.env) = eval o X.env) (hline : (apos.endLine == pos.line) = true) :
    PE X (.Call (.Attribute o "join" apos) [e] [] pos) (TEv cl xc W C (.meth .join a [m])) :=
  PE.imp (pe_join ho he hs hbase hline) fun σ H Q h => by
    have hq : quiet (.meth .join a [m]) = true → quiet a = true ∧ quiet m = true := fun e => by simpa [quiet, quiets] using e
    obtain ⟨Bp, env, A, c, env', R, e, kq⟩ := h
    rcases M.bind_some e with ⟨x, e1, h1, h2⟩ | ⟨r1, env1, h1, h2⟩
    · cases h2
      exact ⟨Bp, env, A, _, _, R, h1, kq⟩
    · refine ⟨Bp, env, A, _, _, R, h1, fun v1 H1 A1 as1 p1 => ?_⟩
      cases hb : !recvOk .join r1.t || (r1.isBor && !quiets [m]) with
      | true => rw [hb] at h2; simp [M.stuck] at h2
      | false =>
        rw [hb] at h2
        simp only [Bool.false_eq_true, if_false] at h2
        simp only [Bool.or_eq_false_iff, Bool.not_eq_false'] at hb
        have hx : ∃ x, r1.t = .str x := by
          have q := hb.1
          cases e : r1.t <;> rw [e] at q <;> first | exact ⟨_, rfl⟩ | cases q
        · obtain ⟨x, hx⟩ := hx
          have rd1 := p1.rv.rd
          rw [hx] at rd1
          refine ⟨⟨_, rd_str rd1⟩, ?_⟩
          rcases M.bind_some h2 with ⟨x2, e2, g1, g2⟩ | ⟨rs, env2, g1, g2⟩
          · cases g2
            exact row1 hm' p1.rel g1 fun cls d H' A' z => kq cls d H' A' (z.behind p1)
          · obtain ⟨r2, rfl⟩ := evBs_one g1
            refine row1 hm' p1.rel g1 ⟨r2, rfl, fun v2 H2 A2 as2 p2 bp => ?_⟩
            simp only [M.lift, List.map_cons, List.map_nil, hx] at g2
            have rd2 := p2.rv.rd
            cases t2 : r2.t with
            | lst ts =>
              rw [t2] at g2 rd2
              simp only [bmT] at g2
              cases qs : allStr ts with
              | none => rw [qs] at g2; cases g2
              | some ys =>
                rw [qs] at g2
                simp only [Option.bind_some] at g2
                split at g2
                · rename_i hl
                  cases g2
                  simp only [RdT] at rd2
                  obtain ⟨q, vs, rfl, hr, rs⟩ := rd2
                  have ev := all_strs qs rs
                  subst ev
                  refine ⟨tS x, q, ys.map tS, rd_str rd1, rfl, .inl (.inl hr), ?_, ?_⟩
                  · rw [tS_sum, List.length_map, tS_len]; exact hl
                  · rw [joinTx_eq]
                    exact kq _ H2 A2 [] (p1.then (p2.then (p2.rel.same (t := .str (joinTx x ys)) (by simp only [RepF])) (q := quiet m) fun e => ⟨e, rfl⟩) hq)
                · cases g2
            | _ => rw [t2] at g2; simp [bmT] at g2
end
end PTS

set_option linter.all false
set_option maxRecDepth 100000
/-! dict displays -/
namespace PTS
open PySem L2 PT

section
variable {cl xc : Clt} {W : WX} {C : Cxt} {X : Cx}
variable {Bp : Addr → Prop} {H H1 H' : Hp} {σ σ1 : St} {env env1 : PT.Env} {A A1 : List (List Addr)} {D : Ends} {wr wr1 wr2 : List Nat}
structure KPost (cl : Clt) (Bp : Addr → Prop) (H : Hp) (σ : St) (A : List (List Addr)) (q : Bool) (os : List (Ky × OV)) (env' : PT.Env) (ks : List (Key × V)) (H' : Hp) (A' : List (List Addr)) (as : List Addr) : Prop where
  rel : Rel cl Bp H' σ env' A'
  rep : RepOk cl .own H' ks os as
  sep : (as ++ A'.flatten).Nodup
  dis : ∀ a ∈ as, ¬ Bp a
  stp : Stp A.flatten H (as ++ A'.flatten) H'
  quiet : q = true → A' = A ∧ ∀ a u, H a = some u → H' a = some u
theorem RepOk.mut' {H : Hp} {ks : List (Key × V)} {os : List (Ky × OV)} {as : List Addr} (h : RepOk cl .own H ks os as) : ∀ a ∈ as, MutU H a := RepOk.mut os h
/-- the pairs of a display -/
theorem ks_run : ∀ (kvs : List (ME × ME)) {Bp : Addr → Prop} {H : Hp} {σ : St} {env env' : PT.Env} {A : List (List Addr)} {c : Except Ex (List (Ky × OV))} {Q : List (V × V) → Hp → Prop}, Rel cl Bp H σ env A →
    (match c with
      | .ok os => ∀ ks H' A' as, KPost cl Bp H σ A (quietk kvs) os env' ks H' A' as → Q (ks.map fun kv => (kV kv.1, kv.2)) H'
      | .error x => ∀ cls d H' A', XPost cl xc Bp H σ A x env' cls d H' A' → W cls d σ H') → evKs C kvs env = some (c, env') →
    tPairs (kvs.map fun p => (TEv cl xc W C p.1, TEv cl xc W C p.2)) σ H Q
  | [], Bp, H, σ, env, env', A, c, Q, R, k, e => by
    simp only [evKs, M.pure] at e
    cases e
    exact k [] H A [] ⟨R, rfl, by simpa using R.nd, fun a h => absurd h List.not_mem_nil, Stp.refl, fun _ => ⟨rfl, fun _ _ h => h⟩⟩
  | (ka, va) :: kvs, Bp, H, σ, env, env', A, c, Q, R, k, e => by
    simp only [evKs] at e
    show TEv cl xc W C ka σ H fun x H1 => TEv cl xc W C va σ H1 fun y H2 => tPairs (kvs.map fun p => (TEv cl xc W C p.1, TEv cl xc W C p.2)) σ H2 fun ps H3 => Q ((x, y) :: ps) H3
    rcases M.bind_some e with ⟨x, e1, h1, h2⟩ | ⟨r1, env1, h1, h2⟩
    · cases h2
      exact ⟨Bp, env, A, _, _, R, h1, k⟩
    · refine ⟨Bp, env, A, _, _, R, h1, fun v1 H1 A1 as1 p1 => ?_⟩
      rcases M.bind_some h2 with ⟨x, e2, g1, g2⟩ | ⟨r2, env2, g1, g2⟩
      · cases g2
        exact ⟨Bp, env1, A1, _, _, p1.rel, g1, fun cls d H' A' z => k cls d H' A' (z.behind p1)⟩
      · refine ⟨Bp, env1, A1, _, _, p1.rel, g1, fun v2 H2 A2 as2 p2 => ?_⟩
        cases r1 with
        | bor j o => cases g2
        | own o1 =>
          cases o1 with
          | fz t =>
            cases r2 with
            | bor j o => cases g2
            | own o2 =>
              simp only at g2
              cases ek : t.k1 with
              | none => rw [ek] at g2; cases g2
              | some q =>
                rw [ek] at g2
                simp only at g2
                have s12 := (p1.stp.less fun a h => List.mem_append_right _ h).trans p2.stp
                have st12 : Stp A.flatten H A2.flatten H2 := s12.less fun a h => List.mem_append_right _ h
                rcases M.bind_some g2 with ⟨x, e3, f1, f2⟩ | ⟨os', env3, f1, f2⟩
                · cases f2
                  exact ks_run kvs p2.rel (fun cls d H' A' z => k cls d H' A' ((z.behind p2).behind p1)) f1
                · simp only [M.pure, Option.some.injEq, Prod.mk.injEq] at f2
                  obtain ⟨rfl, rfl⟩ := f2
                  refine ks_run kvs p2.rel (c := .ok os') (fun ks H3 A3 as3 p3 => ?_) f1
                  have f23 := p3.stp.fp p2.rel.mut
                  have sp2 := List.nodup_append.mp p2.sep
                  have off : ∀ a ∈ as2, a ∉ as3 ++ A3.flatten := fun a h z => by
                    rcases p3.stp.fresh a z with z | z
                    · exact sp2.2.2 a h a z rfl
                    · obtain ⟨u, e, _⟩ := RepO.mut o2 (show RepO cl .own H2 v2 o2 as2 from p2.rv) a h
                      rw [z] at e; cases e
                  have rv2 : RepO cl .own H3 v2 o2 as2 := RepO.keep (show RepO cl .own H2 v2 o2 as2 from p2.rv) f23 fun a u h e => p3.stp.keep a u e fun z => sp2.2.2 a h a z rfl
                  have rd1 : RdT cl H1 v1 t := (RepO.fzF (m := .own) p1.rv).2.rd
                  have hv1 : v1 = kV (k1K q) := by
                    cases t <;> simp only [PV.k1] at ek <;> try cases ek
                    · exact rd_int rd1
                    · exact rd_str rd1
                  subst hv1
                  refine k ((k1K q, v2) :: ks) H3 A3 (as2 ++ as3) ⟨p3.rel, ?_, ?_, fun a h => ?_, ?_, fun e => ?_⟩
                  · simp only [RepOk]
                    exact ⟨as2, as3, rfl, rfl, rv2, p3.rep⟩
                  · rw [List.append_assoc]
                    exact List.nodup_append.mpr ⟨sp2.1, p3.sep, fun a h b hb e => off a h (e ▸ hb)⟩
                  · rcases List.mem_append.mp h with h | h
                    · exact p2.dis a h
                    · exact p3.dis a h
                  · refine ⟨(st12.trans p3.stp).keep, fun a h => ?_⟩
                    rw [List.append_assoc] at h
                    rcases List.mem_append.mp h with h | h
                    · exact s12.fresh a (List.mem_append_left _ h)
                    · exact (st12.trans p3.stp).fresh a h
                  · simp only [quietk, Bool.and_eq_true] at e
                    obtain ⟨e1, k1⟩ := p1.quiet e.1.1
                    obtain ⟨e2, k2⟩ := p2.quiet e.1.2
                    obtain ⟨e3, k3⟩ := p3.quiet e.2
                    exact ⟨e3.trans (e2.trans e1), fun a u h => k3 a u (k2 a u (k1 a u h))⟩
          | _ => cases g2
theorem RepOk.keysOne {m : Md} {H : Hp} : ∀ {ks : List (Key × V)} {os : List (Ky × OV)} {as : List Addr}, RepOk cl m H ks os as → (os.map (·.1)).Nodup → (ks.map (·.1)).Nodup
  | [], [], _, _, _ => List.nodup_nil
  | p :: ks, (k, x) :: os, as, h, nd => by
    simp only [RepOk] at h
    obtain ⟨b, c, _, h0, _, h2⟩ := h
    simp only [List.map_cons] at nd ⊢
    have n := List.nodup_cons.mp nd
    refine List.nodup_cons.mpr ⟨fun z => ?_, RepOk.keysOne h2 n.2⟩
    apply n.1
    have key : ∀ {ks : List (Key × V)} {os : List (Ky × OV)} {as : List Addr}, RepOk cl m H ks os as → p.1 ∈ ks.map (·.1) → k ∈ os.map (·.1) := fun {ks} => by
      induction ks with
      | nil => intro os as h z; simp at z
      | cons q ks ih =>
        intro os as h z
        cases os with
        | nil => simp [RepOk] at h
        | cons r os =>
          obtain ⟨k', x'⟩ := r
          simp only [RepOk] at h
          obtain ⟨b, c, _, g0, _, g2⟩ := h
          simp only [List.map_cons, List.mem_cons] at z ⊢
          rcases z with z | z
          · left
            cases k with
            | tup _ => exact h0.elim
            | one a =>
              cases k' with
              | tup _ => exact g0.elim
              | one a' =>
                simp only [KyK] at h0 g0
                rw [h0, g0] at z
                rw [k1K_inj z]
          · exact .inr (ih g2 z)
    exact key h2 z
  | [], _ :: _, _, h, _ => absurd h (by simp [RepOk])
  | _ :: _, [], _, h, _ => absurd h (by simp [RepOk])
theorem merge_nodup : ∀ (ks acc : List (Key × V)), ((acc ++ ks).map (·.1)).Nodup → mergeK acc ks = acc ++ ks
  | [], acc, _ => by simp [mergeK]
  | p :: ks, acc, nd => by
    show mergeK (putK acc p.1 p.2) ks = _
    have hn : putK acc p.1 p.2 = acc ++ [p] := by
      unfold putK
      rw [if_neg]
      intro z
      obtain ⟨q, hq, e⟩ := List.any_eq_true.mp z
      have e : q.1 = p.1 := by simpa using e
      rw [List.map_append] at nd
      exact (List.nodup_append.mp nd).2.2 q.1 (List.mem_map_of_mem hq) p.1 (by simp) e
    rw [hn, merge_nodup ks (acc ++ [p]) (by simpa using nd)]
    simp
theorem evKs_len : ∀ {kvs : List (ME × ME)} {env env' : PT.Env} {os : List (Ky × OV)}, evKs C kvs env = some (.ok os, env') → os.length = kvs.length
  | [], env, env', os, e => by simp only [evKs, M.pure] at e; cases e; rfl
  | (ka, va) :: kvs, env, env', os, e => by
    simp only [evKs] at e
    rcases M.bind_some e with ⟨x, e1, g1, g2⟩ | ⟨r1, env2, g1, g2⟩
    · cases g2
    · rcases M.bind_some g2 with ⟨x, e1, f1, f2⟩ | ⟨r2, env3, f1, f2⟩
      · cases f2
      · cases r1 with
        | bor j o => cases f2
        | own o1 =>
          cases o1 with
          | fz t =>
            cases r2 with
            | bor j o => cases f2
            | own o2 =>
              simp only at f2
              cases ek : t.k1 with
              | none => rw [ek] at f2; cases f2
              | some q =>
                rw [ek] at f2
                rcases M.bind_some f2 with ⟨x, e1, j1, j2⟩ | ⟨r3, env4, j1, j2⟩
                · cases j2
                · cases j2
                  simp [evKs_len j1]
          | _ => cases f2
theorem te_dicE {T : Bool} {pos : Pos} : PE X (.Dict [] [] pos) (TEv cl xc W C (.dic T [])) := by
  cases T with
  | true =>
    refine PE.imp pe_dnewT fun σ H Q h p hp => ?_
    obtain ⟨Bp, env, A, c, env', R, e, kq⟩ := h
    simp only [evE, ev, pr, evKs, M.bind, M.pure, dicOk, List.isEmpty_nil, Bool.true_or, if_true] at e
    cases e
    refine kq _ _ A [p] (R.new ⟨?_, fun a h => ?_, by simp, upd_all hp⟩)
    · simp only [RepO]
      refine ⟨p, [], rfl, rfl, ?_⟩
      simp only [if_true, Nd]
      exact ⟨[], upd_same, rfl⟩
    · have : a = p := by simpa using h
      rw [this]; exact hp
  | false =>
    refine PE.imp pe_dnewK fun σ H Q h p hp => ?_
    obtain ⟨Bp, env, A, c, env', R, e, kq⟩ := h
    simp only [evE, ev, pr, evKs, M.bind, M.pure, dicOk, List.isEmpty_nil, Bool.true_or, if_true] at e
    cases e
    refine kq _ _ A [p] (R.new ⟨?_, fun a h => ?_, by simp, upd_all hp⟩)
    · simp only [RepO]
      refine ⟨p, [], rfl, rfl, ?_⟩
      simp only [Bool.false_eq_true, if_false, Nd]
      exact ⟨[], upd_same, rfl⟩
    · have : a = p := by simpa using h
      rw [this]; exact hp
theorem te_dic {keys : List (Option Expr)} {values : List Expr} {kvs : List (ME × ME)} {pos : Pos} (h : PPs X pos keys values (kvs.map fun p => (TEv cl xc W C p.1, TEv cl xc W C p.2))) (hall : keys.all (·.isSome) = true) (hl : keys.length = values.length) (h0 : keys ≠ []) (hk0 : kvs ≠ []) (h15 : keys.length ≤ 15) :
    PE X (.Dict keys values pos) (TEv cl xc W C (.dic false kvs)) :=
  PE.imp (pe_disp h hall hl h0 h15) fun σ H Q h p hp => by
    obtain ⟨Bp, env, A, c, env', R, e, kq⟩ := h
    have R1 : Rel cl Bp (upd H p (.dK [])) σ env A := R.all (upd_all hp)
    have hpA : p ∉ A.flatten := fun z => by
      obtain ⟨u, e, _⟩ := R.mut p z
      rw [hp] at e; cases e
    have hpB : ¬ Bp p := fun b => by
      obtain ⟨u, e⟩ := R.bpt p b
      rw [hp] at e; cases e
    have st0 : Stp A.flatten H (p :: A.flatten) (upd H p (.dK [])) := ⟨fun a u h _ => upd_all hp a u h, fun a h => by
      rcases List.mem_cons.mp h with rfl | h
      · exact .inr hp
      · exact .inl h⟩
    rcases M.bind_some e with ⟨x, e1, h1, h2⟩ | ⟨os, env1, h1, h2⟩
    · cases h2
      refine ks_run kvs R1 (fun cls d H' A' z => kq cls d H' A' ⟨z.rel, (st0.less fun a h => List.mem_cons_of_mem _ h).trans z.stp, z.xc⟩) h1
    · refine ks_run kvs R1 (c := .ok os) (fun ks H2 A2 as p2 => ?_) h1
      split at h2
      · rename_i hok
        cases h2
        have hs := List.nodup_append.mp p2.sep
        have hpn : p ∉ as ++ A2.flatten := fun z => by
          rcases p2.stp.fresh p z with z | z
          · exact hpA z
          · rw [upd_same] at z; cases z
        have hp2 : H2 p = some (.dK []) := p2.stp.keep p _ upd_same hpA
        have hos : ¬ os.isEmpty = true := fun z => by
          have e0 : os = [] := by simpa using z
          have := evKs_len h1
          rw [e0] at this
          exact hk0 (List.length_eq_zero_iff.mp this.symm)
        unfold dicOk at hok
        simp only [Bool.or_eq_true, Bool.and_eq_true, decide_eq_true_eq, Bool.not_false] at hok
        obtain ⟨⟨_, h15'⟩, hnd⟩ := hok.elim (fun z => absurd z hos) id
        have hm : mergeK [] ks = ks := by
          have := merge_nodup ks [] (by simpa using p2.rep.keysOne hnd)
          simpa using this
        refine ⟨hp2, ks, rfl, by rw [p2.rep.length]; exact h15', ?_⟩
        rw [hm]
        have hne : ∀ a ∈ as ++ A2.flatten, a ≠ p := fun a h z => hpn (z ▸ h)
        have fp : FP H2 (upd H2 p (.dK ks)) := upd_fp hp2 rfl
        have st2 := (st0.less fun a h => List.mem_cons_of_mem _ h).trans p2.stp
        refine kq (.ref p) _ A2 (p :: as) ⟨p2.rel.to fp (fun a u h e => by rw [upd_ne (hne a (List.mem_append_right _ h))]; exact e) (fun a u b e => ?_), ?_, ?_, fun a h => ?_, ?_, fun e => ?_⟩
        · have : a ≠ p := fun z => hpB (z ▸ b)
          rw [upd_ne this]; exact e
        · show RepO cl .own _ (.ref p) (.dic false os) (p :: as)
          simp only [RepO]
          refine ⟨p, as, rfl, rfl, ?_⟩
          simp only [Bool.false_eq_true, if_false, Nd]
          refine ⟨ks, upd_same, RepOk.tr fp os p2.rep fun a u h z => ?_⟩
          show upd H2 p _ a = some u
          rw [upd_ne (hne a (List.mem_append_left _ h))]
          exact z
        · show (p :: (as ++ A2.flatten)).Nodup
          exact List.nodup_cons.mpr ⟨hpn, p2.sep⟩
        · rcases List.mem_cons.mp h with rfl | h
          · exact hpB
          · exact p2.dis a h
        · refine ⟨fun a u h n => ?_, fun a h => ?_⟩
          · have : a ≠ p := fun z => by rw [z, hp] at h; cases h
            rw [upd_ne this]
            exact st2.keep a u h n
          · rcases List.mem_cons.mp h with rfl | h
            · exact .inr hp
            · exact st2.fresh a h
        · obtain ⟨e1, k1⟩ := p2.quiet (by simpa only [quiet] using e)
          refine ⟨e1, fun a u h => ?_⟩
          have : a ≠ p := fun z => by rw [z, hp] at h; cases h
          rw [upd_ne this]
          exact k1 a u (upd_all hp a u h)
      · cases h2
end
end PTS

set_option linter.all false
set_option maxRecDepth 100000
/-! a def by its body -/
namespace PTS
open PySem PySem.Spec PyProof.Rows L2 PT

/-- what the changed parameters hold behind -/
def outsOf (env : PT.Env) : List Nat → Option (List OV)
  | [] => some []
  | i :: is => match env.at i, outsOf env is with
    | .own o, some os => some (o :: os)
    | _, _ => none
/-- a body's meaning -/
def bodyF (C : Cxt) (n : Nat) (ms : List MS) (ios : List Nat) : FSem := fun ss =>
  match evSs C ms (ss ++ List.replicate (n - ss.length) .un) with
  | none => none
  | some (o, env') => match outsOf env' ios with
    | none => none
    | some outs => match o with
      | .nx => some (.ok (.fz .non), outs)
      | .rt ov => some (.ok ov, outs)
      | .ex x => some (.error x, outs)
      | _ => none
section
variable {cl xc : Clt} {C : Cxt}
theorem SvsOk.len {Bp : Addr → Prop} {H : Hp} : ∀ {vs : List V} {ss : List SV} {As : List (List Addr)}, SvsOk cl Bp H vs ss As → ss.length = vs.length ∧ As.length = vs.length
  | [], [], [], _ => ⟨rfl, rfl⟩
  | v :: vs, s :: ss, a :: As, h => by
    have := SvsOk.len h.2.2
    simp [this.1, this.2]
  | [], _ :: _, _, h => absurd h (by simp [SvsOk])
  | [], [], _ :: _, h => absurd h (by simp [SvsOk])
  | _ :: _, [], _, h => absurd h (by simp [SvsOk])
  | _ :: _, _ :: _, [], h => absurd h (by simp [SvsOk])
theorem SvsOk.at {Bp : Addr → Prop} {H : Hp} : ∀ {vs : List V} {ss : List SV} {As : List (List Addr)} (i : Nat), SvsOk cl Bp H vs ss As → i < vs.length → ∃ v, vs[i]? = some v ∧ SlotOk cl Bp H (some (some v)) (PT.Env.at ss i) (As.getD i [])
  | v :: vs, s :: ss, a :: As, 0, h, _ => ⟨v, rfl, by simpa [PT.Env.at] using h.2.1⟩
  | v :: vs, s :: ss, a :: As, i + 1, h, hi => by
    obtain ⟨w, e, q⟩ := SvsOk.at i h.2.2 (by simpa using hi)
    exact ⟨w, by simpa using e, by simpa [PT.Env.at] using q⟩
  | [], _, _, i, h, hi => absurd hi (Nat.not_lt_zero _)
  | _ :: _, [], _, _, h, _ => absurd h (by simp [SvsOk])
  | _ :: _, _ :: _, [], _, h, _ => absurd h (by simp [SvsOk])
theorem getD_app {α : Type} (l m : List α) (d : α) (i : Nat) : (l ++ m).getD i d = if i < l.length then l.getD i d else m.getD (i - l.length) d := by
  rw [List.getD_eq_getElem?_getD, List.getElem?_append]
  split
  · rw [List.getD_eq_getElem?_getD]
  · rw [List.getD_eq_getElem?_getD]
theorem getD_rep {α : Type} (n i : Nat) (d : α) : (List.replicate n d).getD i d = d := by
  rw [List.getD_eq_getElem?_getD]
  by_cases h : i < n
  · rw [List.getElem?_replicate_of_lt h]; rfl
  · rw [List.getElem?_eq_none (by simpa using h)]; rfl
theorem flat_rep (n : Nat) : (List.replicate n ([] : List Addr)).flatten = [] := by
  induction n with
  | zero => rfl
  | succ n ih => rw [List.replicate_succ, List.flatten_cons, ih]; rfl
theorem rel_start {Bp : Addr → Prop} {H : Hp} {N : List Str} {vs : List V} {ss : List SV} {As : List (List Addr)} (h : SvsOk cl Bp H vs ss As) (hN : vs.length ≤ N.length) (nd : As.flatten.Nodup) (dis : ∀ a ∈ As.flatten, ¬ Bp a) (bpt : ∀ a, Bp a → ∃ u, H a = some u) :
    Rel cl Bp H (L2.start N vs) (ss ++ List.replicate (N.length - ss.length) .un) (As ++ List.replicate (N.length - vs.length) []) := by
  have l := h.len
  have fl : (As ++ List.replicate (N.length - vs.length) ([] : List Addr)).flatten = As.flatten := by rw [List.flatten_append, flat_rep, List.append_nil]
  unfold L2.start
  refine ⟨by simp; omega, by simp; omega, fun i => ?_, by rw [fl]; exact nd, fun a ha => dis a (by rw [fl] at ha; exact ha), bpt⟩
  unfold PT.Env.at
  rw [getD_app, getD_app, List.getElem?_append, l.1, l.2, List.length_map]
  by_cases hi : i < vs.length
  · rw [if_pos hi, if_pos hi, if_pos hi]
    obtain ⟨v, e, q⟩ := h.at i hi
    rw [List.getElem?_map, e]
    exact q
  · rw [if_neg hi, if_neg hi, if_neg hi, getD_rep, getD_rep]
    rfl
theorem outs_ok {Bp : Addr → Prop} {H' : Hp} {N : List Str} {vs : List V} {σ' : L2.St} {env' : PT.Env} {A' : List (List Addr)} {wr : List Nat} (R : Rel cl Bp H' σ' env' A') (sm : Same wr (L2.start N vs) σ') : ∀ {ios : List Nat} {outs : List OV}, outsOf env' ios = some outs → (∀ i ∈ ios, i ∉ wr ∧ i < vs.length) → OutsOk cl H' vs ios outs (ios.map fun i => A'.getD i [])
  | [], outs, e, _ => by cases e; trivial
  | i :: is, outs, e, h => by
    unfold outsOf at e
    cases e1 : env'.at i with
    | un => rw [e1] at e; cases e
    | bor o => rw [e1] at e; cases e
    | own o =>
      rw [e1] at e
      cases e2 : outsOf env' is with
      | none => rw [e2] at e; cases e
      | some os =>
        rw [e2] at e
        cases e
        refine ⟨?_, outs_ok R sm e2 fun j hj => h j (List.mem_cons_of_mem _ hj)⟩
        have q := R.slot i
        rw [e1] at q
        obtain ⟨v, z, ro⟩ := q
        obtain ⟨h1, h2⟩ := h i List.mem_cons_self
        rw [sm.2 i h1] at z
        unfold L2.start at z
        rw [List.getElem?_append_left (by simpa using h2), List.getElem?_map] at z
        cases ev : vs[i]? with
        | none => rw [ev] at z; cases z
        | some v' =>
          rw [ev] at z
          cases z
          exact ⟨v, rfl, ro⟩
theorem outs_nd {A : List (List Addr)} (h : A.flatten.Nodup) : ∀ {ios : List Nat}, ios.Nodup → (ios.map fun i => A.getD i []).flatten.Nodup
  | [], _ => List.nodup_nil
  | i :: is, hn => by
    have n := List.nodup_cons.mp hn
    rw [List.map_cons, List.flatten_cons]
    have no := List.nodup_append.mp (nodup_out i h)
    refine List.nodup_append.mpr ⟨no.1, outs_nd h n.2, fun a ha b hb e => ?_⟩
    subst e
    obtain ⟨l, hl, hal⟩ := List.mem_flatten.mp hb
    obtain ⟨j, hj, rfl⟩ := List.mem_map.mp hl
    have hij : i ≠ j := fun z => n.1 (z ▸ hj)
    refine no.2.2 a ha a ?_ rfl
    have : (A.set i []).getD j [] = A.getD j [] := by rw [getD_set, if_neg fun z => hij z.1]
    exact mem_getD (i := j) (by rw [this]; exact hal)
theorem outs_sub {A : List (List Addr)} {ios : List Nat} {a : Addr} (h : a ∈ (ios.map fun i => A.getD i []).flatten) : a ∈ A.flatten := by
  obtain ⟨l, hl, hal⟩ := List.mem_flatten.mp h
  obtain ⟨j, hj, rfl⟩ := List.mem_map.mp hl
  exact mem_getD hal
/-- the wishes at a body's end -/
theorem body_ends {ps N : List Str} {dfl : List PV} {ios : List Nat} {ms : List MS} {vs : List V} {H : Hp} {Q : VK} {E : XK} (hsp : spOf cl xc ⟨ps.length, dfl, ios, bodyF C N.length ms ios⟩ vs H Q E) (hN : vs.length ≤ N.length) (hn : ios.Nodup) (hio : ∀ i ∈ ios, i ∉ wrs ms ∧ i < vs.length) :
    TSs cl xc (fun cls d _ H => E cls d H) C ms { nx := fun _ H' => Q .non H', rt := Q } (L2.start N vs) H := by
  obtain ⟨ss, As, Bp, r, outs, hs, nd, dis, bpt, es, hk⟩ := hsp
  have R := rel_start (N := N) hs hN nd dis bpt
  have fl : (As ++ List.replicate (N.length - vs.length) ([] : List Addr)).flatten = As.flatten := by rw [List.flatten_append, flat_rep, List.append_nil]
  have es : bodyF C N.length ms ios ss = some (r, outs) := es
  unfold bodyF at es
  cases eb : evSs C ms (ss ++ List.replicate (N.length - ss.length) .un) with
  | none => rw [eb] at es; cases es
  | some q =>
    obtain ⟨o, env'⟩ := q
    rw [eb] at es
    simp only at es
    cases eo : outsOf env' ios with
    | none => rw [eo] at es; cases es
    | some outs' =>
      rw [eo] at es
      simp only at es
      refine ⟨Bp, _, _, o, env', R, eb, ?_⟩
      -- a value and what stands behind
      have fin : ∀ {ov : OV} {v : V} {σ' : L2.St} {H' : Hp} {A' : List (List Addr)} {as : List Addr}, SPost cl Bp H (L2.start N vs) (As ++ List.replicate (N.length - vs.length) []) (wrs ms) env' σ' H' A' → r = .ok ov → outs = outs' → RepO cl .own H' v ov as → (as ++ A'.flatten).Nodup → (∀ a ∈ as, ¬ Bp a) → Stp As.flatten H (as ++ A'.flatten) H' → Q v H' := fun {ov v σ' H' A' as} p e e2 ro nd' dis' st => by
        subst e e2
        have n := List.nodup_append.mp nd'
        refine hk v H' as _ ro (outs_ok p.rel p.same eo hio) (List.nodup_append.mpr ⟨n.1, outs_nd p.rel.nd hn, fun a ha b hb e => n.2.2 a ha b (outs_sub hb) e⟩) (fun a h => ?_) (st.less fun a h => ?_)
        · rcases List.mem_append.mp h with h | h
          · exact dis' a h
          · exact p.rel.dis a (outs_sub h)
        · rcases List.mem_append.mp h with h | h
          · exact List.mem_append_left _ h
          · exact List.mem_append_right _ (outs_sub h)
      cases o with
      | nx =>
        cases es
        intro σ' H' A' p
        have st := p.stp
        rw [fl] at st
        exact fin (as := []) p rfl rfl (by simp only [RepO, RepF]; exact ⟨trivial, trivial⟩) (by simpa using p.rel.nd) (fun a h => absurd h List.not_mem_nil) (by simpa using st)
      | rt ov =>
        cases es
        intro v σ' H' A' as p ro nd' dis' st
        rw [fl] at st
        exact fin p rfl rfl ro nd' dis' st
      | ex x =>
        cases es
        intro cls d σ' H' A' p xk
        have st := p.stp
        rw [fl] at st
        exact hk cls d H' _ (outs_ok p.rel p.same eo hio) (outs_nd p.rel.nd hn) (fun a h => p.rel.dis a (outs_sub h)) (st.less fun a h => outs_sub h) xk
      | br => cases es
      | ct => cases es
/-- the rule -/
theorem fn_ofG {P : Program} {w : World} {K : PySem.W.Frag} {mg : Str → Option Value} {base : Heap} {k : Nat} {f : Addr} {nm qual : Str} {prm : Arguments} {body : List Stmt} {scope : Scope} {dV kV doc pm cdv ct oc : Value} {an od : Option Addr} {osl : Array (Option Value)} {N ps : List Str}
    {dfl : List PV} {ios : List Nat} {ms : List MS} (lk : K.lookup f = some ⟨oc, od, .func (PySem.W.fnOf nm qual prm body scope dV kV doc pm an cdv ct), osl⟩) (hcd : PySem.W.codeIn K cdv qual = true) (S : FnScope N ps scope) (hn : ios.Nodup) (hio : ∀ i ∈ ios, i ∉ wrs ms ∧ i < ps.length)
    (hbody : ∀ (A : Around) (outer : List PySem.Env) (s : Shared) (H : Hp) (E : XK) (W : WX), Room k (A.deeper (envOfC qual scope s.heap.objs.size f cdv)) → A.guards = some [] → Takes (cxOf (CX P w) P w K mg base N qual scope f cdv A outer s H E) W →
      PSs (cxOf (CX P w) P w K mg base N qual scope f cdv A outer s H E) body (TSs cl xc W C ms)) :
    FnG P w K mg base (k + 1) f (PySem.W.fnOf nm qual prm body scope dV kV doc pm an cdv ct) ps (spOf cl xc ⟨ps.length, dfl, ios, bodyF C N.length ms ios⟩) := by
  refine ⟨fun A outer s H args us vs Q E hr hg e0 hb r hl hsp => ?_⟩
  have KX : K.In s.heap :=
    e0.mod.kin.keeps fun b o e => (e0.bs b o e).1
  have lim : s.heap.NoLimit :=
    e0.mod.nolimit.keeps fun b o e => (e0.bs b o e).1
  have hpl : ps.length ≤ N.length := by have := congrArg List.length S.pre; rw [List.length_take] at this; omega
  have kinds : ∀ y ∈ ps.zip us, scope.names.lookup y.1 = some .local ∨
      (scope.names.lookup y.1 = some .cell ∧ ((cellsFrom (s.heap.objs.size + 1) scope.names []).lookup y.1).isSome = true) := fun ⟨n, v⟩ hy =>
    (S.par n (List.of_mem_zip hy).1).imp id fun q => ⟨q, PySem.W.cellsFrom_some _ _ _ (.inl q)⟩
  refine codeAny_call_function hr.depth (KX _ _ lk) rfl S.co S.gen rfl
    (PySem.W.codeRec_of KX hcd) (hb _ _ _ _ ?_)
  refine wpAny_newFunctionEnv_cells S.kind kinds fun env he s1 x => ?_
  subst he
  refine ⟨lim.keeps x.toInCall.keep, codeAny_func ?_⟩
  have ht := hbody A outer s H E (fun cls d _ H => E cls d H) (hr.deeper _) hg
    (takes_of rfl rfl rfl rfl)
  have I : Inv (cxOf (CX P w) P w K mg base N qual scope f cdv A outer s H E) [] (L2.start N vs) H s1 :=
    inv_start S hr.hd e0 hl r x
  refine wpAny_mono (ht.run [] s1 (L2.start N vs) H _ I (body_ends hsp (by omega) hn fun i h => by rw [hl]; exact hio i h)) (fun fl s' hs => ?_) fun e s' hs => hs
  have fin : ∀ {σ' : L2.St} {H' : Hp} {v : V} {u : Value}, Inv (cxOf (CX P w) P w K mg base N qual scope f cdv A outer s H E) [] σ' H' s' → RelV v u → Q v H' →
      CE outer P w H s Q u s' := fun {σ' H' v u} J rv q => ⟨v, H', J.os, J.bare, J.base, J.hok, rv, q⟩
  cases fl with
  | ret u =>
    obtain ⟨v, σ', H', J, rv, q⟩ := hs
    exact fin J rv q
  | next =>
    obtain ⟨σ', H', J, q⟩ := hs
    exact fin (v := V.non) (u := Value.none) J rfl q
  | brk =>
    obtain ⟨_, _, _, q⟩ := hs
    exact q.elim
  | cont =>
    obtain ⟨_, _, _, q⟩ := hs
    exact q.elim
end
end PTS

set_option linter.all false
set_option maxRecDepth 100000
/-! is a def's text the small tree? -/
namespace PTS
open PySem L2 PT

structure FI where
  ps : List Str
  shapes : List (Nat × List Nat)
/-- what the checker knows of the text's globals -/
structure Sx where
  fns : List (String × FI)
  gls : List String
  bis : List String
  N : List Str
def glb (sc : Scope) (x : Str) : Bool := match sc.names.lookup x with
  | some .globalImplicit => true
  | _ => false
def visb (sc : Scope) (x : Str) : Bool := match sc.names.lookup x with
  | some .local => true
  | some .cell => true
  | some .free => true
  | _ => false
def locb (fnb : Str → Bool) (sc : Scope) (x : Str) : Bool := match sc.names.lookup x with
  | some .local => true
  | some .cell => fnb x
  | _ => false
def dbg (x : Str) : Bool := (x == ("__debug__" : Str)) || (x == ("__classdict__" : Str))
def nameB (N : List Str) (sc : Scope) (i : Nat) (x : Str) : Bool := decide (N[i]? = some x) && visb sc x && !dbg x
def noStar : Expr → Bool
  | .Starred _ _ => false
  | _ => true
def noSet : Expr → Bool
  | .Set _ _ _ => false
  | _ => true
def noSlice : Expr → Bool
  | .Slice _ _ _ _ => false
  | _ => true
def plainT : Expr → Bool
  | .UnaryOp _ _ _ => false
  | .BoolOp _ _ _ => false
  | .IfExp _ _ _ _ => false
  | .Compare _ _ _ _ => false
  | _ => true
def noCall : Expr → Bool
  | .Call _ _ _ _ => false
  | _ => true
def noIo : ME → Bool
  | .io _ => false
  | _ => true
def conB : PV → Const → Bool
  | .non, .none => true
  | .bl b, .bool c => b == c
  | .int i, .int j => i == j
  | .str t, .str s => decide (s = tS t)
  | _, _ => false
def biN : Bi → Option String
  | .len => some "len"
  | .abs => some "abs"
  | .max2 => some "max"
  | .min2 => some "min"
  | .divmod => some "divmod"
  | .all => some "all"
  | .repr => some "repr"
  | _ => none
def relS' (scope sc : Scope) : Scope :=
  { scope with names := scope.names.map fun (n, k) => if (k == .free && sc.kind == .function && sc.names.lookup n == some .cell) then (n, .cell) else (n, k) }
def ownOf (N : List Str) (is : List Nat) : List (Str × Nat) := is.map fun i => ((N[i]?).getD ⟨#[]⟩, i)
mutual
def chkTn (N : List Str) (fnb : Str → Bool) (sc : Scope) : Tn → Expr → Bool
  | .nm i, .Name x _ => decide (N[i]? = some x) && locb fnb sc x
  | .tp ts, .Tuple es _ _ => chkTns N fnb sc ts es
  | _, _ => false
termination_by structural t => t
def chkTns (N : List Str) (fnb : Str → Bool) (sc : Scope) : List Tn → List Expr → Bool
  | [], [] => true
  | t :: ts, e :: es => chkTn N fnb sc t e && chkTns N fnb sc ts es
  | _, _ => false
termination_by structural t => t
end
def blkFn (scope : Scope) (x : Str) : Bool := scope.names.lookup x == some .cell
def dup (b : Bool) : Bool × Bool := (b, b)
def one (b : Bool) : Bool × Bool := (b, false)
def chkBi (S : Sx) (sc : Scope) (f : Bi) (x : Str) (es : List Expr) (ks : List Keyword) (args : List ME) (chl : List Expr → Bool) : Bool :=
  ks.isEmpty && match f with
    | .isi T => (match es with
      | [e, .Name y _] => decide (x = fS "isinstance") && glb sc x && S.bis.contains "isinstance" && decide (y = fS T) && glb sc y && S.bis.contains T && ["str", "int", "bool", "list", "tuple", "dict"].contains T && args.all noIo && chl [e]
      | _ => false)
    | f => (match biN f with
      | some n => decide (x = fS n) && glb sc x && S.bis.contains n
      | none => false) && !es.isEmpty && chl es
mutual
/-- as a value; as a test -/
def chk (S : Sx) (sc : Scope) : ME → Expr → Bool × Bool
  | .var i, .Name x _ => dup (nameB S.N sc i x)
  | .mv i, .Name x _ => dup (nameB S.N sc i x)
  | .fzv i, .Name x _ => dup (nameB S.N sc i x)
  | .io i, .Name x _ => dup (nameB S.N sc i x)
  | .con t, .Constant c _ _ => dup (conB t c)
  | .glob g, .Name x _ => dup (decide (x = fS g) && glb sc x && !dbg x && S.gls.contains g)
  | .bin op a b, .BinOp x o y _ => dup (decide (o = boP op) && (chk S sc a x).1 && (chk S sc b y).1)
  | .neg a, .UnaryOp .USub x _ => one (chk S sc a x).1
  | .cmp op a b, .Compare x [o] [y] _ => dup (decide (o = coP op) && noSet y && (chk S sc a x).1 && (chk S sc b y).1)
  | .chain op op2 a b c, .Compare x [o, o2] [y, z] _ => dup (decide (o = coP op) && decide (o2 = coP op2) && noSet z && (chk S sc a x).1 && (chk S sc b y).1 && (chk S sc c z).1)
  | .and a b, .BoolOp .And (x :: y :: rest) pos => if rest.isEmpty then ((chk S sc a x).1 && (chk S sc b y).1, (chk S sc a x).2 && (chk S sc b y).2)
    else ((chk S sc a x).1 && (chk S sc b (.BoolOp .And (y :: rest) pos)).1, (chk S sc a x).2 && (chk S sc b (.BoolOp .And (y :: rest) pos)).2)
  | .or a b, .BoolOp .Or (x :: y :: rest) pos => if rest.isEmpty then ((chk S sc a x).1 && (chk S sc b y).1, (chk S sc a x).2 && (chk S sc b y).2)
    else ((chk S sc a x).1 && (chk S sc b (.BoolOp .Or (y :: rest) pos)).1, (chk S sc a x).2 && (chk S sc b (.BoolOp .Or (y :: rest) pos)).2)
  | .not a, .UnaryOp .Not x _ => chk S sc a x
  | .ite c a b, .IfExp t x y _ => one ((chk S sc c t).2 && (chk S sc a x).1 && (chk S sc b y).1)
  | .lst es, .List xs _ => dup (chkL S sc es xs)
  | .tup es, .Tuple xs _ _ => dup (chkL S sc es xs)
  | .dic T kvs, .Dict ks vs _ => dup ((if kvs.isEmpty then ks.isEmpty && vs.isEmpty else !T && decide (ks.length ≤ 15)) && chkK S sc kvs ks vs)
  | .sub a i, .Subscript x y _ => dup (noSlice y && (chk S sc a x).1 && (chk S sc i y).1)
  | .slice a l h, .Subscript x (.Slice lo hi none _) _ => dup ((chk S sc a x).1 && chkO S sc l lo && chkO S sc h hi)
  | .bi f args, .Call (.Name x _) es ks _ => dup (chkBi S sc f x es ks args (chkL S sc args))
  | .call f args kns kws, .Call (.Name x _) es ks _ => dup (decide (x = fS f) && glb sc x && !dbg x && (match S.fns.lookup f with
    | some i => i.shapes.contains (es.length, kns) && decide (ks.map (·.arg) = kns.map fun j => i.ps[j]?) && (kns.all fun j => (i.ps[j]?).isSome)
    | none => false) && chkL S sc args es && chkKw S sc kws ks)
  | .meth .join o args, .Call (.Attribute x nm ap) [e] [] p => dup (decide (nm = fS "join") && (ap.endLine == p.line) && noCall x && args.all noIo && (chk S sc o x).1 && chkL S sc args [e])
  | .lc elt tg k its ifs, .ListComp x [⟨t, it, fs, as⟩] scope _ => dup (decide (as = 0) && noSet it && chkIt S sc k its it && blkC S.N sc scope (ownOf S.N tg.slots) && chkTn S.N (blkFn scope) (relS' scope sc) tg t && chkTs S (relS' scope sc) ifs fs && (chk S (relS' scope sc) elt x).1)
  | .fz a, x => one (chk S sc a x).1
  | _, _ => (false, false)
termination_by structural m => m
def chkL (S : Sx) (sc : Scope) : List ME → List Expr → Bool
  | [], [] => true
  | m :: ms, e :: es => noStar e && (chk S sc m e).1 && chkL S sc ms es
  | _, _ => false
termination_by structural m => m
def chkK (S : Sx) (sc : Scope) : List (ME × ME) → List (Option Expr) → List Expr → Bool
  | [], [], [] => true
  | (a, b) :: ms, some k :: ks, v :: vs => (chk S sc a k).1 && (chk S sc b v).1 && chkK S sc ms ks vs
  | _, _, _ => false
termination_by structural m => m
def chkO (S : Sx) (sc : Scope) : Option ME → Option Expr → Bool
  | none, none => true
  | some m, some e => (chk S sc m e).1
  | _, _ => false
termination_by structural m => m
def chkKw (S : Sx) (sc : Scope) : List ME → List Keyword → Bool
  | [], [] => true
  | m :: ms, ⟨_, e, _⟩ :: ks => noIo m && (chk S sc m e).1 && chkKw S sc ms ks
  | _, _ => false
termination_by structural m => m
def chkTs (S : Sx) (sc : Scope) : List ME → List Expr → Bool
  | [], [] => true
  | m :: ms, e :: es => (chk S sc m e).2 && ms.isEmpty && es.isEmpty
  | _, _ => false
termination_by structural m => m
def chkIt (S : Sx) (sc : Scope) (k : ItK) : List ME → Expr → Bool
  | [], _ => false
  | m :: ms, it => match k, it with
    | .seq, e => noIo m && ms.isEmpty && (chk S sc m e).1
    | .str, e => noIo m && ms.isEmpty && (chk S sc m e).1
    | .range1, .Call (.Name x _) [a] [] _ => decide (x = fS "range") && glb sc x && S.bis.contains "range" && ms.isEmpty && noStar a && (chk S sc m a).1
    | .range2, .Call (.Name x _) [a, b] [] _ => decide (x = fS "range") && glb sc x && S.bis.contains "range" && noStar a && (chk S sc m a).1 && chkL S sc ms [b] && decide (ms.length = 1)
    | _, _ => false
termination_by structural m => m
end
end PTS

set_option linter.all false
set_option maxRecDepth 100000
set_option maxHeartbeats 2000000
/-! the checker is right: expressions -/
namespace PTS
open PySem L2 PT

structure KitOk (P : Program) (w : World) (K : PySem.W.Frag) (mg : Str → Option Value) (base : Heap) (cl xc : Clt) (C : Cxt) (S : Sx) (k : Nat) : Prop where
  fns : ∀ f i, S.fns.lookup f = some i → ∃ g fa fd ds, C.fn f = some g ∧ FnE P w K mg base cl xc k (fS f) g fa fd i.ps ds ∧ ∀ np kns, (np, kns) ∈ i.shapes → Shape K fd i.ps ds np kns
  gls : ∀ g ∈ S.gls, ∃ v u t, C.gl g = some t ∧ mg (fS g) = some u ∧ RelV v u ∧ ∀ H, RepF cl H v t
  bis : ∀ b ∈ S.bis, mg (fS b) = none
  rp : C.rp = rpS
  kin : K.In base
  sm : ∃ o, base.get? sysModules = some o
structure XOk (cl xc : Clt) (C : Cxt) (S : Sx) (k : Nat) (X : Cx) (W : WX) (fnb : Str → Bool) : Prop where
  kit : KitOk X.prog X.w X.K X.mg X.base cl xc C S k
  n : X.N = S.N
  nd : S.N.Nodup
  fn : ∀ x, fnb x = true → X.fn x = true
  calm : X.calm = true
  room : Room k X.A
  gd : X.A.guards = some []
  tk : Takes X W

section
variable {cl xc : Clt} {C : Cxt} {S : Sx} {k : Nat}
theorem XOk.units {X : Cx} {W : WX} {fnb : Str → Bool} (h : XOk cl xc C S k X W fnb) : X.A.units + 64 < cLine := h.room.units
theorem XOk.blk {X : Cx} {W : WX} {fnb : Str → Bool} (h : XOk cl xc C S k X W fnb) (s : Shared) (H : Hp) (scope : Scope) (Cc : Addr) (cls : List (Str × Addr)) (fp : List Addr) :
    XOk cl xc C S k (X.blk s H scope (compEnvC scope cls Cc X.env) fp) noW (blkFn scope) :=
  ⟨h.kit, h.n, h.nd, fun x e => e, h.calm, h.room, h.gd, takes0⟩
theorem blk_sc (X : Cx) (s : Shared) (H : Hp) (scope : Scope) (Cc : Addr) (cls : List (Str × Addr)) (fp : List Addr) : (X.blk s H scope (compEnvC scope cls Cc X.env) fp).env.scope = relS' scope X.env.scope := rfl

/-! ### shapes -/
theorem star_one {e : Expr} {es : List Expr} {env : PySem.Env} (h : noStar e = true) : starEach (e :: es) env = (false, eval e env) :: starEach es env := by
  cases e <;> first | rfl | cases h
theorem plain_T {e : Expr} {env : PySem.Env} (h : plainT e = true) (whole : Sem Value) : isTrue e env whole = (do let v ← whole; standAt e.pos; holding [v] (truthy v)) := by
  cases e <;> first | rfl | cases h
theorem plain_ix {e : Expr} (h : noSlice e = true) : PlainIx e := fun o i => by
  cases e <;> first | rfl | cases h
theorem no_marks {op : CmpOp} {e : Expr} (h : noSet e = true) : behindInMarks op e = false := by
  cases e <;> first | rfl | cases h
theorem no_fold {e : Expr} {env : PySem.Env} (h : noSet e = true) (x : Value) : foldedSetIterable e env x = pure x := by
  cases e <;> first | rfl | cases h
theorem no_sup {o : Expr} {nm : Str} {env : PySem.Env} (h : noCall o = true) : attributeBase o nm env (eval o env) = eval o env := by
  cases o <;> first | rfl | cases h
theorem no_io {m : ME} (h : noIo m = true) (i : Nat) : m ≠ .io i := fun e => by subst e; cases h
theorem vis_of {sc : Scope} {x : Str} (h : visb sc x = true) : Vis sc x := by
  unfold visb at h
  split at h
  · exact .inl (by assumption)
  · exact .inr (.inl (by assumption))
  · exact .inr (.inr (by assumption))
  · cases h
theorem gl_of {X : Cx} {x : Str} (h : glb X.env.scope x = true) : Gl X x := by
  unfold glb at h
  split at h
  · assumption
  · cases h
theorem dbg_of {x : Str} (h : dbg x = false) : (x == ("__debug__" : Str)) = false ∧ (x == ("__classdict__" : Str)) = false := by
  unfold dbg at h
  simpa only [Bool.or_eq_false_iff] using h
theorem pw_of {X : Cx} {op : PySem.BoolOp} {es : List Expr} {pos : Pos} {t : TT} (h : L2.PT X (.BoolOp op es pos) t) : PW X (.BoolOp op es pos) t := ⟨fun whole pins s σ H Q I q => h.run pins s σ H Q I q⟩
theorem chkL_stars {S : Sx} {sc : Scope} : ∀ {ms : List ME} {es : List Expr}, chkL S sc ms es = true → ∀ (pos : Pos) (env : PySem.Env), (backTo pos (starEach es env)).any (·.1) = false
  | [], [], _, _, _ => rfl
  | m :: ms, e :: es, h, pos, env => by
    simp only [chkL, Bool.and_eq_true] at h
    rw [star_one h.1.1]
    show (false || (backTo pos (starEach es env)).any (·.1)) = false
    rw [chkL_stars h.2]
    rfl
  | [], _ :: _, h, _, _ => by simp [chkL] at h
  | _ :: _, [], h, _, _ => by simp [chkL] at h
theorem chkL_len {S : Sx} {sc : Scope} : ∀ {ms : List ME} {es : List Expr}, chkL S sc ms es = true → ms.length = es.length
  | [], [], _ => rfl
  | m :: ms, e :: es, h => by
    simp only [chkL, Bool.and_eq_true] at h
    simp [chkL_len h.2]
  | [], _ :: _, h => by simp [chkL] at h
  | _ :: _, [], h => by simp [chkL] at h
theorem chkKw_len {S : Sx} {sc : Scope} : ∀ {ms : List ME} {ks : List Keyword}, chkKw S sc ms ks = true → ms.length = ks.length
  | [], [], _ => rfl
  | m :: ms, ⟨_, _, _⟩ :: es, h => by
    simp only [chkKw, Bool.and_eq_true] at h
    simp [chkKw_len h.2]
  | [], _ :: _, h => by simp [chkKw] at h
  | _ :: _, [], h => by simp [chkKw] at h
theorem kw_names (pos : Pos) (env : PySem.Env) : ∀ (ks : List Keyword), (backToKw pos (keywordEach ks env)).map (·.1) = ks.map (·.arg)
  | [] => rfl
  | ⟨n, e, p⟩ :: ks => by
    show n :: (backToKw pos (keywordEach ks env)).map (·.1) = n :: ks.map (·.arg)
    rw [kw_names pos env ks]
/-- a call of a kept def: what is evaluated, then the call -/
theorem call_shape {X : Cx} {f : Addr} {es : List Expr} {ks : List Keyword} {kns : List Nat} {ps : List Str} {pos : Pos} (hk : PySem.W.keepIn X.K (.ref f) = true) (hes : ∀ e ∈ es, noStar e = true) (hst : (backTo pos (starEach es X.env)).any (·.1) = false) (hn : ks.map (·.arg) = kns.map fun j => ps[j]?) (hs : (kns.all fun j => (ps[j]?).isSome) = true) {Q : Value → Shared → Prop} {s : Shared}
    (h : wpAny (model X.prog X.w) X.A (spliced (backTo pos (starEach es X.env))) (fun us s1 => wpAny (model X.prog X.w) X.A (evalAll ((backToKw pos (keywordEach ks X.env)).map (·.2))) (fun ws s2 => X.K.In s2.heap ∧ us.length = es.length ∧ ws.length = kns.length ∧ wpAny (model X.prog X.w) X.A (call (.ref f) us ((kns.filterMap fun j => ps[j]?).zip ws)) Q X.xe s2) X.xe s1) X.xe s)
    (hK : ∃ h0, X.K.In h0) : wpAny (model X.prog X.w) X.A (callWith pos (.ref f) [] (backTo pos (starEach es X.env)) (backToKw pos (keywordEach ks X.env))) Q X.xe s := by
  obtain ⟨h0, hK⟩ := hK
  have names := kw_names pos X.env ks
  have allS : (backToKw pos (keywordEach ks X.env)).all (·.1.isSome) = true := by
    have : ((backToKw pos (keywordEach ks X.env)).map (·.1)).all (·.isSome) = true := by
      rw [names, hn, List.all_map]
      exact hs
    rw [List.all_map] at this
    exact this
  have noneS : (backToKw pos (keywordEach ks X.env)).any (·.1.isNone) = false := by
    rw [List.any_eq_false]
    intro x hx z
    have := List.all_eq_true.mp allS x hx
    rw [Option.isNone_iff_eq_none] at z
    rw [z] at this
    cases this
  have fm : (backToKw pos (keywordEach ks X.env)).filterMap (·.1) = kns.filterMap fun j => ps[j]? := by
    have : ((backToKw pos (keywordEach ks X.env)).map (·.1)).filterMap id = (kns.map fun j => ps[j]?).filterMap id := by rw [names, hn]
    rw [List.filterMap_map, List.filterMap_map] at this
    exact this
  have hplain : ((backTo pos (starEach es X.env)).any (·.1) || (backToKw pos (keywordEach ks X.env)).any (·.1.isNone)) = false := by rw [hst, noneS]; rfl
  cases es with
  | nil =>
    refine PySem.W.callWith_KW0 (h₀ := h0) hK hk allS ?_ hplain
    rw [fm]
    have h3 : wpAny (model X.prog X.w) X.A (evalAll ((backToKw pos (keywordEach ks X.env)).map (·.2))) (fun ws s2 => X.K.In s2.heap ∧ ([] : List Value).length = ([] : List Expr).length ∧ ws.length = kns.length ∧ wpAny (model X.prog X.w) X.A (call (.ref f) [] ((kns.filterMap fun j => ps[j]?).zip ws)) Q X.xe s2) X.xe s := fun Γ p hΓ => h Γ p hΓ Γ p hΓ
    exact thn h3 fun ws s2 q => ⟨q.1, q.2.2.2⟩
  | cons e es =>
    refine PySem.W.callWith_KW (h₀ := h0) hK hk allS ?_ hplain (star_one (hes e List.mem_cons_self))
    rw [fm]
    exact thn h fun us s1 h1 => thn h1 fun ws s2 q => ⟨q.1, q.2.2.2⟩
end
end PTS

set_option linter.all false
set_option maxRecDepth 100000
set_option maxHeartbeats 4000000
/-! the checker is right: expressions, by the tree -/
namespace PTS
open PySem L2 PT

section
variable {cl xc : Clt} {C : Cxt} {S : Sx} {k : Nat}
def OkE (cl xc : Clt) (C : Cxt) (S : Sx) (k : Nat) (m : ME) : Prop := ∀ (X : Cx) (W : WX) (fnb : Str → Bool) (e : Expr), XOk cl xc C S k X W fnb →
  ((chk S X.env.scope m e).1 = true → PE X e (TEv cl xc W C m)) ∧ ((chk S X.env.scope m e).2 = true → L2.PT X e (TTv cl xc W C m))
def OkL (cl xc : Clt) (C : Cxt) (S : Sx) (k : Nat) (ms : List ME) : Prop := ∀ (X : Cx) (W : WX) (fnb : Str → Bool), XOk cl xc C S k X W fnb →
  (∀ es, chkL S X.env.scope ms es = true → PA X es (TBv cl xc W C ms)) ∧ (∀ ks, chkKw S X.env.scope ms ks = true → PK X ks (TBv cl xc W C ms)) ∧ (∀ es, chkTs S X.env.scope ms es = true → PTs X es (TT' cl xc W (quiets ms) (evTs C ms))) ∧
  (∀ kd tg it, chkIt S X.env.scope kd ms it = true → PI X tg it (ItR cl xc W C kd ms)) ∧ ∀ m e, ms = [m] → (chk S X.env.scope m e).1 = true → PE X e (TEv cl xc W C m)
def OkK (cl xc : Clt) (C : Cxt) (S : Sx) (k : Nat) (ms : List (ME × ME)) : Prop := ∀ (X : Cx) (W : WX) (fnb : Str → Bool) (pos : Pos), XOk cl xc C S k X W fnb → ∀ ks vs, chkK S X.env.scope ms ks vs = true →
  PPs X pos ks vs (ms.map fun p => (TEv cl xc W C p.1, TEv cl xc W C p.2)) ∧ ks.all (·.isSome) = true ∧ ks.length = vs.length ∧ ks.length = ms.length
def OkO (cl xc : Clt) (C : Cxt) (S : Sx) (k : Nat) (m : Option ME) : Prop := ∀ (X : Cx) (W : WX) (fnb : Str → Bool), XOk cl xc C S k X W fnb → ∀ e, chkO S X.env.scope m e = true → PO X e (TI' cl xc W (quieto m) (evI C m))
/-- a plain node, as a value and as a test -/
theorem okd {X : Cx} {W : WX} {m : ME} {e : Expr} {b : Bool} (hm : evT C m = truM (evE C m)) (hp : plainT e = true) (h : b = true → PE X e (TEv cl xc W C m)) : ((dup b).1 = true → PE X e (TEv cl xc W C m)) ∧ ((dup b).2 = true → L2.PT X e (TTv cl xc W C m)) :=
  ⟨h, fun z => tt_val hm (plain_T hp) (h z)⟩
theorem okv {X : Cx} {W : WX} {m : ME} {e : Expr} {b : Bool} (h : b = true → PE X e (TEv cl xc W C m)) : ((one b).1 = true → PE X e (TEv cl xc W C m)) ∧ ((one b).2 = true → L2.PT X e (TTv cl xc W C m)) :=
  ⟨h, fun z => nomatch z⟩
theorem okf {X : Cx} {W : WX} {m : ME} {e : Expr} {P : Bool × Bool} (hP : P = (false, false)) : (P.1 = true → PE X e (TEv cl xc W C m)) ∧ (P.2 = true → L2.PT X e (TTv cl xc W C m)) := by
  subst hP
  exact ⟨fun z => (nomatch z), fun z => nomatch z⟩
theorem name_of {X : Cx} {W : WX} {fnb : Str → Bool} {i : Nat} {x : Str} (H : XOk cl xc C S k X W fnb) (h : nameB S.N X.env.scope i x = true) : X.N[i]? = some x ∧ Vis X.env.scope x ∧ (x == ("__debug__" : Str)) = false ∧ (x == ("__classdict__" : Str)) = false := by
  unfold nameB at h
  simp only [Bool.and_eq_true, decide_eq_true_eq, Bool.not_eq_true'] at h
  exact ⟨by rw [H.n]; exact h.1.1, vis_of h.1.2, dbg_of h.2⟩
theorem ok_con {X : Cx} {W : WX} {t : PV} {c : Const} {j : Nat} {pos : Pos} (h : conB t c = true) : PE X (.Constant c j pos) (TEv cl xc W C (.con t)) := by
  cases t <;> cases c <;> simp only [conB, beq_iff_eq, decide_eq_true_eq] at h <;> try cases h
  · exact te_non
  · exact te_bl
  · exact te_int
  · exact te_str
theorem ok_glob {X : Cx} {W : WX} {fnb : Str → Bool} {g : String} {x : Str} {pos : Pos} (H : XOk cl xc C S k X W fnb) (h : (decide (x = fS g) && glb X.env.scope x && !dbg x && S.gls.contains g) = true) : PE X (.Name x pos) (TEv cl xc W C (.glob g)) := by
  simp only [Bool.and_eq_true, decide_eq_true_eq, Bool.not_eq_true'] at h
  obtain ⟨⟨⟨e, h1⟩, h2⟩, h3⟩ := h
  obtain ⟨v, u, t, e1, e2, r, rf⟩ := H.kit.gls g (by simpa using h3)
  rw [← e] at e2
  refine PE.imp (pe_glob (gl_of h1) e2 r (dbg_of h2).1) fun σ Hh Q q => ?_
  obtain ⟨Bp, env, A, c, env', R, ev, kq⟩ := q
  have ev : M.lift ((C.gl g).map own) env = some (c, env') := ev
  rw [e1] at ev
  cases ev
  exact kq _ _ _ _ (R.same (rf Hh))
theorem boot_len : bootBuiltins (fS "len") = some (.builtin "len") := by decide +kernel
theorem bi_name {X : Cx} {W : WX} {fnb : Str → Bool} {x : Str} {n : String} (H : XOk cl xc C S k X W fnb) (h : decide (x = fS n) = true) (hg : glb X.env.scope x = true) (hb : S.bis.contains n = true) : Gl X x ∧ X.mg x = none := by
  have e : x = fS n := by simpa using h
  exact ⟨gl_of hg, by rw [e]; exact H.kit.bis n (by simpa using hb)⟩
theorem ok_bi {X : Cx} {W : WX} {fnb : Str → Bool} {f : Bi} {n : String} {x : Str} {e : Expr} {es : List Expr} {m : ME} {ms : List ME} {p pos : Pos} (H : XOk cl xc C S k X W fnb) (hf : biN f = some n) (ex : x = fS n) (hgl : Gl X x) (hm : X.mg x = none) (ha : PA X (e :: es) (TBv cl xc W C (m :: ms)))
    (he : starEach (e :: es) X.env = (false, eval e X.env) :: starEach es X.env) (hpl : (backTo pos (starEach es X.env)).any (·.1) = false) : PE X (.Call (.Name x p) (e :: es) [] pos) (TEv cl xc W C (.bi f (m :: ms))) := by
  subst ex
  cases f <;> simp only [biN] at hf <;> try cases hf
  · exact te_bi (fun _ => rfl) cb_len hgl hm (by decide +kernel) ha (by decide +kernel) (by decide +kernel) he hpl
  · exact te_bi (fun _ => rfl) cb_abs hgl hm (by decide +kernel) ha (by decide +kernel) (by decide +kernel) he hpl
  · exact te_bi (fun _ => rfl) (cb_max H.calm) hgl hm (by decide +kernel) ha (by decide +kernel) (by decide +kernel) he hpl
  · exact te_bi (fun _ => rfl) (cb_min H.calm) hgl hm (by decide +kernel) ha (by decide +kernel) (by decide +kernel) he hpl
  · exact te_bi (fun _ => rfl) (cb_all H.calm) hgl hm (by decide +kernel) ha (by decide +kernel) (by decide +kernel) he hpl
  · exact te_bi (fun _ => rfl) (cb_repr H.kit.rp H.gd H.units H.kit.sm) hgl hm (by decide +kernel) ha (by decide +kernel) (by decide +kernel) he hpl
  · exact te_bi (fun _ => rfl) cb_divmod hgl hm (by decide +kernel) ha (by decide +kernel) (by decide +kernel) he hpl
theorem boot_ty : ∀ T ∈ ["str", "int", "bool", "list", "tuple", "dict"], bootBuiltins (fS T) = some (.type T) ∧ fS T ≠ ("__name__" : Str) ∧ (fS T == ("__debug__" : Str)) = false := by decide +kernel
/-! targets -/
theorem loc_of {fnb : Str → Bool} {X : Cx} {x : Str} (hf : ∀ x, fnb x = true → X.fn x = true) (h : locb fnb X.env.scope x = true) : Loc X.env.scope x ∧ (X.fn x = true ∨ X.env.scope.names.lookup x = some .local) := by
  unfold locb at h
  split at h
  · rename_i e
    exact ⟨.inl e, .inr e⟩
  · rename_i e
    exact ⟨.inr e, .inl (hf x h)⟩
  · cases h
theorem tn_star {N : List Str} {fnb : Str → Bool} {sc : Scope} {t : Tn} {e : Expr} (h : chkTn N fnb sc t e = true) : noStar e = true := by
  cases t <;> cases e <;> first | rfl | (simp [chkTn] at h)
theorem assign_one {e : Expr} {es : List Expr} {env : PySem.Env} (h : noStar e = true) : assignEach (e :: es) env = (false, assign e env) :: assignEach es env := by
  cases e <;> first | rfl | cases h
theorem tns_star {N : List Str} {fnb : Str → Bool} {sc : Scope} {env : PySem.Env} : ∀ {ts : List Tn} {es : List Expr}, chkTns N fnb sc ts es = true → (assignEach es env).length = ts.length ∧ (assignEach es env).findIdx? (·.1) = none
  | [], [], _ => ⟨rfl, rfl⟩
  | t :: ts, e :: es, h => by
    simp only [chkTns, Bool.and_eq_true] at h
    rw [assign_one (tn_star h.1)]
    have ih := tns_star (env := env) h.2
    refine ⟨by simp [ih.1], ?_⟩
    rw [List.findIdx?_cons]
    simp [ih.2]
  | [], _ :: _, h => by simp [chkTns] at h
  | _ :: _, [], h => by simp [chkTns] at h
mutual
theorem ok_tn {X : Cx} {fnb : Str → Bool} (hn : X.N.Nodup) (hc : X.calm = true) (hf : ∀ x, fnb x = true → X.fn x = true) : ∀ (t : Tn) {e : Expr}, chkTn X.N fnb X.env.scope t e = true → PG X e (gT X.K t)
  | .nm i, e, h => by
    cases e with
    | Name x pos =>
      simp only [chkTn, Bool.and_eq_true, decide_eq_true_eq] at h
      obtain ⟨h1, h2⟩ := loc_of hf h.2
      simp only [gT]
      exact pg_name hn h.1 h1 h2
    | _ => simp [chkTn] at h
  | .tp ts, e, h => by
    cases e with
    | Tuple es j pos =>
      simp only [chkTn] at h
      simp only [gT]
      have st := tns_star (env := X.env) h
      exact pg_tup hc (ok_tns hn hc hf ts h) st.1 st.2
    | _ => simp [chkTn] at h
termination_by structural t => t
theorem ok_tns {X : Cx} {fnb : Str → Bool} (hn : X.N.Nodup) (hc : X.calm = true) (hf : ∀ x, fnb x = true → X.fn x = true) : ∀ (ts : List Tn) {es : List Expr}, chkTns X.N fnb X.env.scope ts es = true → PGs X es (gTs X.K ts)
  | [], [], h => by simp only [gTs]; exact pgs_nil
  | t :: ts, e :: es, h => by
    simp only [chkTns, Bool.and_eq_true] at h
    simp only [gTs]
    exact pgs_cons (ok_tn hn hc hf t h.1) (ok_tns hn hc hf ts h.2) (by rw [assign_one (tn_star h.1)]; rfl)
  | [], _ :: _, h => by simp [chkTns] at h
  | _ :: _, [], h => by simp [chkTns] at h
termination_by structural t => t
end
theorem own_slots (N : List Str) (is : List Nat) : (ownOf N is).map (·.2) = is := by
  unfold ownOf
  rw [List.map_map]
  conv => rhs; rw [← List.map_id is]
  rfl
end
end PTS

set_option linter.all false
set_option maxRecDepth 100000
set_option maxHeartbeats 8000000
/-! the checker is right: the recursion -/
namespace PTS
open PySem L2 PT

section
variable {cl xc : Clt} {C : Cxt} {S : Sx} {k : Nat}
theorem e_var (i : Nat) : OkE cl xc C S k (.var i) := fun X W fnb e H => by
  cases e <;> try exact okf rfl
  exact okd rfl rfl fun h => by
    obtain ⟨h1, h2, h3, h4⟩ := name_of H h
    exact te_var h1 h2 h3 h4
theorem e_mv (i : Nat) : OkE cl xc C S k (.mv i) := fun X W fnb e H => by
  cases e <;> try exact okf rfl
  exact okd rfl rfl fun h => by
    obtain ⟨h1, h2, h3, h4⟩ := name_of H h
    exact te_mv rfl rfl h1 h2 h3 h4
theorem e_io (i : Nat) : OkE cl xc C S k (.io i) := fun X W fnb e H => by
  cases e <;> try exact okf rfl
  exact okd rfl rfl fun h => by
    obtain ⟨h1, h2, h3, h4⟩ := name_of H h
    exact te_mv rfl rfl h1 h2 h3 h4
theorem e_fzv (i : Nat) : OkE cl xc C S k (.fzv i) := fun X W fnb e H => by
  cases e <;> try exact okf rfl
  exact okd rfl rfl fun h => by
    obtain ⟨h1, h2, h3, h4⟩ := name_of H h
    exact te_fzv h1 h2 h3 h4
theorem e_con (t : PV) : OkE cl xc C S k (.con t) := fun X W fnb e H => by
  cases e <;> try exact okf rfl
  exact okd rfl rfl fun h => ok_con h
theorem e_glob (g : String) : OkE cl xc C S k (.glob g) := fun X W fnb e H => by
  cases e <;> try exact okf rfl
  exact okd rfl rfl fun h => ok_glob H h
theorem e_bin {op : BO} {a b : ME} (ia : OkE cl xc C S k a) (ib : OkE cl xc C S k b) : OkE cl xc C S k (.bin op a b) := fun X W fnb e H => by
  cases e <;> try exact okf rfl
  exact okd rfl rfl fun h => by
    simp only [Bool.and_eq_true, decide_eq_true_eq] at h
    obtain ⟨⟨rfl, h1⟩, h2⟩ := h
    exact te_bin (op_bin op) ((ia X W fnb _ H).1 h1) ((ib X W fnb _ H).1 h2)
theorem e_neg {a : ME} (ia : OkE cl xc C S k a) : OkE cl xc C S k (.neg a) := fun X W fnb e H => by
  cases e <;> try exact okf rfl
  rename_i u x pos
  cases u <;> try exact okf rfl
  exact okv fun h => te_neg ((ia X W fnb _ H).1 h)
theorem e_cmp {op : CO} {a b : ME} (ia : OkE cl xc C S k a) (ib : OkE cl xc C S k b) : OkE cl xc C S k (.cmp op a b) := fun X W fnb e H => by
  cases e <;> try exact okf rfl
  rename_i x os ys pos
  rcases os with _ | ⟨o, _ | ⟨_, _⟩⟩ <;> rcases ys with _ | ⟨y, _ | ⟨_, _⟩⟩ <;> try exact okf rfl
  have go : (decide (o = coP op) && noSet y && (chk S X.env.scope a x).1 && (chk S X.env.scope b y).1) = true → PE X (.Compare x [o] [y] pos) (TEv cl xc W C (.cmp op a b)) ∧ L2.PT X (.Compare x [o] [y] pos) (TTv cl xc W C (.cmp op a b)) := fun h => by
    simp only [Bool.and_eq_true, decide_eq_true_eq] at h
    obtain ⟨⟨⟨rfl, h0⟩, h1⟩, h2⟩ := h
    have pa := (ia X W fnb _ H).1 h1
    have pb := (ib X W fnb _ H).1 h2
    exact ⟨te_cmp (op_cmp H.units op) (no_marks h0) pa pb, tt_cmp (op_cmp H.units op) (no_marks h0) pa pb⟩
  exact ⟨fun h => (go h).1, fun h => (go h).2⟩
theorem e_chain {op op2 : CO} {a b c : ME} (ia : OkE cl xc C S k a) (ib : OkE cl xc C S k b) (ic : OkE cl xc C S k c) : OkE cl xc C S k (.chain op op2 a b c) := fun X W fnb e H => by
  cases e <;> try exact okf rfl
  rename_i x os ys pos
  rcases os with _ | ⟨o, _ | ⟨o2, _ | ⟨_, _⟩⟩⟩ <;> rcases ys with _ | ⟨y, _ | ⟨z, _ | ⟨_, _⟩⟩⟩ <;> try exact okf rfl
  have go : (decide (o = coP op) && decide (o2 = coP op2) && noSet z && (chk S X.env.scope a x).1 && (chk S X.env.scope b y).1 && (chk S X.env.scope c z).1) = true → PE X (.Compare x [o, o2] [y, z] pos) (TEv cl xc W C (.chain op op2 a b c)) ∧ L2.PT X (.Compare x [o, o2] [y, z] pos) (TTv cl xc W C (.chain op op2 a b c)) := fun h => by
    simp only [Bool.and_eq_true, decide_eq_true_eq] at h
    obtain ⟨⟨⟨⟨⟨rfl, rfl⟩, h0⟩, h1⟩, h2⟩, h3⟩ := h
    have pa := (ia X W fnb _ H).1 h1
    have pb := (ib X W fnb _ H).1 h2
    have pc := (ic X W fnb _ H).1 h3
    exact ⟨te_chain (op_cmp H.units op) (op_cmp H.units op2) (no_marks h0) pa pb pc, tt_chain (op_cmp H.units op) (op_cmp H.units op2) (no_marks h0) pa pb pc⟩
  exact ⟨fun h => (go h).1, fun h => (go h).2⟩
theorem e_and {a b : ME} (ia : OkE cl xc C S k a) (ib : OkE cl xc C S k b) : OkE cl xc C S k (.and a b) := fun X W fnb e H => by
  cases e <;> try exact okf rfl
  rename_i o xs pos
  cases o <;> rcases xs with _ | ⟨x, _ | ⟨y, _ | ⟨z, rest⟩⟩⟩ <;> try exact okf rfl
  · show ((((chk S X.env.scope a x).1 && (chk S X.env.scope b y).1, (chk S X.env.scope a x).2 && (chk S X.env.scope b y).2) : Bool × Bool).1 = true → _) ∧ (((((chk S X.env.scope a x).1 && (chk S X.env.scope b y).1, (chk S X.env.scope a x).2 && (chk S X.env.scope b y).2) : Bool × Bool)).2 = true → _)
    simp only [Bool.and_eq_true]
    exact ⟨fun h => te_and ((ia X W fnb _ H).1 h.1) (te_one ((ib X W fnb _ H).1 h.2)), fun h => (tw_and ((ia X W fnb _ H).2 h.1) (tw_one ((ib X W fnb _ H).2 h.2))).pt⟩
  · show ((((chk S X.env.scope a x).1 && (chk S X.env.scope b (.BoolOp .And (y :: z :: rest) pos)).1, (chk S X.env.scope a x).2 && (chk S X.env.scope b (.BoolOp .And (y :: z :: rest) pos)).2) : Bool × Bool).1 = true → _) ∧ (((((chk S X.env.scope a x).1 && (chk S X.env.scope b (.BoolOp .And (y :: z :: rest) pos)).1, (chk S X.env.scope a x).2 && (chk S X.env.scope b (.BoolOp .And (y :: z :: rest) pos)).2) : Bool × Bool)).2 = true → _)
    simp only [Bool.and_eq_true]
    exact ⟨fun h => te_and ((ia X W fnb _ H).1 h.1) ((ib X W fnb _ H).1 h.2), fun h => (tw_and ((ia X W fnb _ H).2 h.1) (pw_of ((ib X W fnb _ H).2 h.2))).pt⟩
theorem e_or {a b : ME} (ia : OkE cl xc C S k a) (ib : OkE cl xc C S k b) : OkE cl xc C S k (.or a b) := fun X W fnb e H => by
  cases e <;> try exact okf rfl
  rename_i o xs pos
  cases o <;> rcases xs with _ | ⟨x, _ | ⟨y, _ | ⟨z, rest⟩⟩⟩ <;> try exact okf rfl
  · show ((((chk S X.env.scope a x).1 && (chk S X.env.scope b y).1, (chk S X.env.scope a x).2 && (chk S X.env.scope b y).2) : Bool × Bool).1 = true → _) ∧ (((((chk S X.env.scope a x).1 && (chk S X.env.scope b y).1, (chk S X.env.scope a x).2 && (chk S X.env.scope b y).2) : Bool × Bool)).2 = true → _)
    simp only [Bool.and_eq_true]
    exact ⟨fun h => te_or ((ia X W fnb _ H).1 h.1) (te_one ((ib X W fnb _ H).1 h.2)), fun h => (tw_or ((ia X W fnb _ H).2 h.1) (tw_one ((ib X W fnb _ H).2 h.2))).pt⟩
  · show ((((chk S X.env.scope a x).1 && (chk S X.env.scope b (.BoolOp .Or (y :: z :: rest) pos)).1, (chk S X.env.scope a x).2 && (chk S X.env.scope b (.BoolOp .Or (y :: z :: rest) pos)).2) : Bool × Bool).1 = true → _) ∧ (((((chk S X.env.scope a x).1 && (chk S X.env.scope b (.BoolOp .Or (y :: z :: rest) pos)).1, (chk S X.env.scope a x).2 && (chk S X.env.scope b (.BoolOp .Or (y :: z :: rest) pos)).2) : Bool × Bool)).2 = true → _)
    simp only [Bool.and_eq_true]
    exact ⟨fun h => te_or ((ia X W fnb _ H).1 h.1) ((ib X W fnb _ H).1 h.2), fun h => (tw_or ((ia X W fnb _ H).2 h.1) (pw_of ((ib X W fnb _ H).2 h.2))).pt⟩
theorem e_not {a : ME} (ia : OkE cl xc C S k a) : OkE cl xc C S k (.not a) := fun X W fnb e H => by
  cases e <;> try exact okf rfl
  rename_i u x pos
  cases u <;> try exact okf rfl
  exact ⟨fun h => te_not ((ia X W fnb _ H).1 h), fun h => tt_not ((ia X W fnb _ H).2 h)⟩
theorem e_ite {c a b : ME} (ic : OkE cl xc C S k c) (ia : OkE cl xc C S k a) (ib : OkE cl xc C S k b) : OkE cl xc C S k (.ite c a b) := fun X W fnb e H => by
  cases e <;> try exact okf rfl
  exact okv fun h => by
    simp only [Bool.and_eq_true] at h
    exact te_ite ((ic X W fnb _ H).2 h.1.1) ((ia X W fnb _ H).1 h.1.2) ((ib X W fnb _ H).1 h.2)
theorem e_lst {es : List ME} (il : OkL cl xc C S k es) : OkE cl xc C S k (.lst es) := fun X W fnb e H => by
  cases e <;> try exact okf rfl
  exact okd rfl rfl fun h => te_lst ((il X W fnb H).1 _ h)
theorem e_tup {es : List ME} (il : OkL cl xc C S k es) : OkE cl xc C S k (.tup es) := fun X W fnb e H => by
  cases e <;> try exact okf rfl
  exact okd rfl rfl fun h => te_tup ((il X W fnb H).1 _ h)
theorem e_dic {T : Bool} {kvs : List (ME × ME)} (ik : OkK cl xc C S k kvs) : OkE cl xc C S k (.dic T kvs) := fun X W fnb e H => by
  cases e <;> try exact okf rfl
  rename_i ks vs pos
  refine okd rfl rfl fun h => ?_
  simp only [Bool.and_eq_true] at h
  obtain ⟨h1, h2⟩ := h
  obtain ⟨g1, g2, g3, g4⟩ := ik X W fnb pos H ks vs h2
  cases kvs with
  | nil =>
    have e1 : ks = [] := List.length_eq_zero_iff.mp g4
    subst e1
    have e2 : vs = [] := List.length_eq_zero_iff.mp g3.symm
    subst e2
    exact te_dicE
  | cons q kvs =>
    simp only [List.isEmpty_cons, Bool.false_eq_true, if_false, Bool.and_eq_true, Bool.not_eq_true', decide_eq_true_eq] at h1
    obtain ⟨rfl, h15⟩ := h1
    refine te_dic g1 g2 g3 (fun z => ?_) (by simp) h15
    subst z
    simp at g4
theorem e_sub {a i : ME} (ia : OkE cl xc C S k a) (ib : OkE cl xc C S k i) : OkE cl xc C S k (.sub a i) := fun X W fnb e H => by
  cases e <;> try exact okf rfl
  exact okd rfl rfl fun h => by
    simp only [Bool.and_eq_true] at h
    exact te_sub (by have := H.units; omega) (plain_ix h.1.1) ((ia X W fnb _ H).1 h.1.2) ((ib X W fnb _ H).1 h.2)
theorem e_slice {a : ME} {l h : Option ME} (ia : OkE cl xc C S k a) (il : OkO cl xc C S k l) (ih : OkO cl xc C S k h) : OkE cl xc C S k (.slice a l h) := fun X W fnb e H => by
  cases e <;> try exact okf rfl
  rename_i x y pos
  cases y <;> try exact okf rfl
  rename_i lo hi st p2
  cases st with
  | some _ => exact okf rfl
  | none =>
    exact okd rfl rfl fun h => by
      simp only [Bool.and_eq_true] at h
      exact te_slice ((ia X W fnb _ H).1 h.1.1) (il X W fnb H _ h.1.2) (ih X W fnb H _ h.2)
theorem e_bi {f : Bi} {args : List ME} (il : OkL cl xc C S k args) : OkE cl xc C S k (.bi f args) := fun X W fnb e H => by
  cases e <;> try exact okf rfl
  rename_i fe es ks pos
  cases fe <;> try exact okf rfl
  rename_i x p
  refine okd rfl rfl fun h9 => ?_
  unfold chkBi at h9
  rw [Bool.and_eq_true, List.isEmpty_iff] at h9
  obtain ⟨rfl, h⟩ := h9
  by_cases hi : ∃ T, f = .isi T
  · obtain ⟨T, rfl⟩ := hi
    simp only at h
    split at h
    · rename_i e y p2
      simp only [Bool.and_eq_true, decide_eq_true_eq] at h
      obtain ⟨⟨⟨⟨⟨⟨⟨⟨ex, h1⟩, h2⟩, ey⟩, h3⟩, h4⟩, h5⟩, h6⟩, h7⟩ := h
      cases args with
      | nil => simp [chkL] at h7
      | cons m ms =>
        cases ms with
        | cons _ _ => simp [chkL] at h7
        | nil =>
          have hh := h7
          simp only [chkL, Bool.and_eq_true] at hh
          have hio : noIo m = true := by simpa using h6
          obtain ⟨b1, b2, b3⟩ := boot_ty T (by simpa using h5)
          have g1 := H.kit.bis "isinstance" (by simpa using h2)
          have g2 := H.kit.bis T (by simpa using h4)
          subst ex ey
          exact te_isi (x := fS T) (no_io hio) (gl_of h1) g1 (gl_of h3) g2 b1 b2 b3 ((il X W fnb H).2.2.2.2 m e rfl hh.1.2) (star_one hh.1.1) rfl (by rfl)
    · cases h
  · have h : ((match biN f with
      | some n => decide (x = fS n) && glb X.env.scope x && S.bis.contains n
      | none => false) && !es.isEmpty && chkL S X.env.scope args es) = true := by
      cases f <;> first | exact h | exact absurd ⟨_, rfl⟩ hi
    simp only [Bool.and_eq_true] at h
    obtain ⟨⟨h1, h0⟩, h2⟩ := h
    cases hn : biN f with
    | none => rw [hn] at h1; cases h1
    | some n =>
      rw [hn] at h1
      simp only [Bool.and_eq_true] at h1
      obtain ⟨g1, g2⟩ := bi_name H h1.1.1 h1.1.2 h1.2
      cases es with
      | nil => cases h0
      | cons e es =>
        cases args with
        | nil => simp [chkL] at h2
        | cons m ms =>
          have hh := h2
          simp only [chkL, Bool.and_eq_true] at hh
          exact ok_bi H hn (by simpa using h1.1.1) g1 g2 ((il X W fnb H).1 _ h2) (star_one hh.1.1) (chkL_stars hh.2 _ _)
theorem e_call {f : String} {args kws : List ME} {kns : List Nat} (il : OkL cl xc C S k args) (ik : OkL cl xc C S k kws) : OkE cl xc C S k (.call f args kns kws) := fun X W fnb e H => by
  cases e <;> try exact okf rfl
  rename_i fe es ks pos
  cases fe <;> try exact okf rfl
  rename_i x p
  refine okd rfl rfl fun h => ?_
  simp only [Bool.and_eq_true, decide_eq_true_eq, Bool.not_eq_true'] at h
  obtain ⟨⟨⟨⟨⟨ex, h1⟩, h2⟩, h3⟩, h4⟩, h5⟩ := h
  cases hf : S.fns.lookup f with
  | none => rw [hf] at h3; cases h3
  | some i =>
    rw [hf] at h3
    simp only [Bool.and_eq_true, decide_eq_true_eq] at h3
    obtain ⟨⟨h6, h7⟩, h8⟩ := h3
    obtain ⟨g, fa, fd, ds, hC, F, sh⟩ := H.kit.fns f i hf
    subst ex
    have hstar : ∀ {ms : List ME} {es : List Expr}, chkL S X.env.scope ms es = true → ∀ e ∈ es, noStar e = true := fun {ms} => by
      induction ms with
      | nil => intro es h e he; cases es with
        | nil => cases he
        | cons _ _ => simp [chkL] at h
      | cons m ms ih => intro es h e he; cases es with
        | nil => cases he
        | cons e' es =>
          simp only [chkL, Bool.and_eq_true] at h
          rcases List.mem_cons.mp he with rfl | he
          · exact h.1.1
          · exact ih h.2 e he
    have kl : kws.length = kns.length := by
      rw [chkKw_len h5]
      have := congrArg List.length h7
      simpa using this
    refine te_call hC F H.room H.gd H.tk (gl_of h1) (sh _ _ (by simpa using h6)) ((il X W fnb H).1 _ h4) ((ik X W fnb H).2.1 _ h5) (dbg_of h2).1 (chkL_len h4) kl fun Q s hq => ?_
    exact call_shape F.keep (hstar h4) (chkL_stars h4 _ _) h7 h8 hq ⟨X.base, H.kit.kin⟩
theorem e_meth {m : Bm} {o : ME} {args : List ME} (io : OkE cl xc C S k o) (il : OkL cl xc C S k args) : OkE cl xc C S k (.meth m o args) := fun X W fnb e H => by
  cases m with
  | items => cases e <;> exact okf rfl
  | join =>
    cases e <;> try exact okf rfl
    rename_i fe es ks pos
    cases fe <;> try exact okf rfl
    rename_i x nm ap
    rcases es with _ | ⟨e, _ | ⟨_, _⟩⟩ <;> rcases ks with _ | ⟨_, _⟩ <;> try exact okf rfl
    refine okd rfl rfl fun h => ?_
    simp only [Bool.and_eq_true, decide_eq_true_eq] at h
    obtain ⟨⟨⟨⟨⟨rfl, h1⟩, h2⟩, h3⟩, h4⟩, h5⟩ := h
    cases args with
    | nil => simp [chkL] at h5
    | cons m ms =>
      cases ms with
      | cons _ _ => simp [chkL] at h5
      | nil =>
        have hh := h5
        simp only [chkL, Bool.and_eq_true] at hh
        have hio : noIo m = true := by simpa using h3
        exact te_join (no_io hio) ((io X W fnb _ H).1 h4) ((il X W fnb H).2.2.2.2 m e rfl hh.1.2) (star_one hh.1.1) (no_sup h2) h1
theorem e_fz {a : ME} (ia : OkE cl xc C S k a) : OkE cl xc C S k (.fz a) := fun X W fnb e H => by
  have : chk S X.env.scope (.fz a) e = one (chk S X.env.scope a e).1 := by cases e <;> rfl
  rw [this]
  exact okv fun h => te_fz ((ia X W fnb _ H).1 h)
theorem e_lc {elt : ME} {tg : Tn} {kd : ItK} {its ifs : List ME} (ie : OkE cl xc C S k elt) (il : OkL cl xc C S k its) (ii : OkL cl xc C S k ifs) : OkE cl xc C S k (.lc elt tg kd its ifs) := fun X W fnb e H => by
  cases e <;> try exact okf rfl
  rename_i x gens scope pos
  rcases gens with _ | ⟨⟨t, it, fs, as⟩, _ | ⟨_, _⟩⟩ <;> try exact okf rfl
  · refine okd rfl rfl fun h => ?_
    simp only [Bool.and_eq_true, decide_eq_true_eq] at h
    obtain ⟨⟨⟨⟨⟨⟨rfl, h0⟩, h1⟩, h2⟩, h3⟩, h4⟩, h5⟩ := h
    have hN : X.N.Nodup := by rw [H.n]; exact H.nd
    refine te_lc H.calm hN ((il X W fnb H).2.2.2.1 kd t it h1) (blkOk_by (by rw [H.n]; exact h2)) (own_slots S.N tg.slots) (fun s Hh Cc cls fp => ?_) (fun s Hh Cc cls fp => ?_) (fun s Hh Cc cls fp => ?_) (no_fold h0)
    · have HB := H.blk s Hh scope Cc cls fp
      exact ok_tn (X := X.blk s Hh scope (compEnvC scope cls Cc X.env) fp) hN H.calm HB.fn tg (by rw [show (X.blk s Hh scope (compEnvC scope cls Cc X.env) fp).N = S.N from H.n]; exact h3)
    · exact (ii _ _ _ (H.blk s Hh scope Cc cls fp)).2.2.1 fs h4
    · exact (ie _ _ _ _ (H.blk s Hh scope Cc cls fp)).1 h5
end
end PTS

set_option linter.all false
set_option maxRecDepth 100000
set_option maxHeartbeats 8000000
/-! the checker is right: all trees -/
namespace PTS
open PySem L2 PT

section
variable {cl xc : Clt} {C : Cxt} {S : Sx} {k : Nat}
theorem l_nil : OkL cl xc C S k [] := fun X W fnb H => by
  refine ⟨fun es h => ?_, fun ks h => ?_, fun es h => ?_, fun kd tg it h => ?_, fun m e h => by cases h⟩
  · cases es with
    | nil => exact ta_nil
    | cons _ _ => simp [chkL] at h
  · cases ks with
    | nil => exact tk_nil
    | cons _ _ => simp [chkKw] at h
  · cases es with
    | cons _ _ => simp [chkTs] at h
    | nil =>
      exact ⟨fun pins s σ Hh Q I q => pts_nil.run pins s σ Hh Q I (by
        obtain ⟨Bp, env, A, c, env', R, e, kq⟩ := q
        simp only [evTs, M.pure] at e
        cases e
        exact kq Hh A ⟨R, Stp.refl, fun _ => ⟨rfl, fun _ _ h => h⟩⟩)⟩
  · simp [chkIt] at h
theorem io_args {X : Cx} {W : WX} {fnb : Str → Bool} (H : XOk cl xc C S k X W fnb) {i : Nat} {e : Expr} {es : List Expr} {ms : List ME} (h : (chk S X.env.scope (.io i) e).1 = true) (hr : PA X es (TBv cl xc W C ms)) (hs : starEach (e :: es) X.env = (false, eval e X.env) :: starEach es X.env) : PA X (e :: es) (TBv cl xc W C (.io i :: ms)) := by
  cases e <;> try exact nomatch (show false = true from h)
  rename_i x pos
  obtain ⟨h1, h2, h3, h4⟩ := name_of H (i := i) (x := x) h
  exact ta_io h1 h2 h3 h4 hr hs
theorem l_cons {m : ME} {ms : List ME} (im : OkE cl xc C S k m) (il : OkL cl xc C S k ms) : OkL cl xc C S k (m :: ms) := fun X W fnb H => by
  refine ⟨fun es h => ?_, fun ks h => ?_, fun es h => ?_, fun kd tg it h => ?_, fun m' e h0 h => ?_⟩
  · cases es with
    | nil => simp [chkL] at h
    | cons e es =>
      simp only [chkL, Bool.and_eq_true] at h
      by_cases hi : ∃ i, m = .io i
      · obtain ⟨i, rfl⟩ := hi
        exact io_args H h.1.2 ((il X W fnb H).1 es h.2) (star_one h.1.1)
      · exact ta_cons (fun i e => hi ⟨i, e⟩) ((im X W fnb e H).1 h.1.2) ((il X W fnb H).1 es h.2) (star_one h.1.1)
  · cases ks with
    | nil => simp [chkKw] at h
    | cons kw ks =>
      obtain ⟨nm, e, p⟩ := kw
      simp only [chkKw, Bool.and_eq_true] at h
      exact tk_cons (no_io h.1.1) ((im X W fnb e H).1 h.1.2) ((il X W fnb H).2.1 ks h.2)
  · cases es with
    | nil => simp [chkTs] at h
    | cons e es =>
      simp only [chkTs, Bool.and_eq_true, List.isEmpty_iff] at h
      obtain ⟨⟨h1, rfl⟩, rfl⟩ := h
      have pt := (im X W fnb e H).2 h1
      refine ⟨fun pins s σ Hh Q I q => (pts_one pt).run pins s σ Hh Q I ?_⟩
      obtain ⟨Bp, env, A, c, env', R, e1, kq⟩ := q
      simp only [evTs] at e1
      have hq : quiets [m] = quiet m := by simp [quiets]
      rw [hq] at kq
      rcases M.bind_some e1 with ⟨x, e2, h1, h2⟩ | ⟨r1, env1, h1, h2⟩
      · cases h2
        exact ⟨Bp, env, A, _, _, R, h1, kq⟩
      · refine ⟨Bp, env, A, _, _, R, h1, ?_⟩
        cases r1 with
        | true => cases h2; exact kq
        | false => cases h2; exact kq
  · simp only [chkIt] at h
    cases kd with
    | seq =>
      simp only [Bool.and_eq_true, List.isEmpty_iff] at h
      obtain ⟨⟨h1, rfl⟩, h2⟩ := h
      exact pi_seqM (no_io h1) ((im X W fnb it H).1 h2)
    | str =>
      simp only [Bool.and_eq_true, List.isEmpty_iff] at h
      obtain ⟨⟨h1, rfl⟩, h2⟩ := h
      exact pi_strM (no_io h1) ((im X W fnb it H).1 h2)
    | range1 =>
      cases it <;> try exact nomatch (show false = true from h)
      rename_i fe es ks pos
      cases fe <;> try exact nomatch (show false = true from h)
      rename_i x p
      rcases es with _ | ⟨a, _ | ⟨_, _⟩⟩ <;> rcases ks with _ | ⟨_, _⟩ <;> try exact nomatch (show false = true from h)
      simp only [Bool.and_eq_true, decide_eq_true_eq, List.isEmpty_iff] at h
      obtain ⟨⟨⟨⟨⟨rfl, h1⟩, h2⟩, rfl⟩, h3⟩, h4⟩ := h
      have hm := H.kit.bis "range" (by simpa using h2)
      by_cases hi : ∃ i, m = .io i
      · obtain ⟨i, rfl⟩ := hi
        exact pi_rng1M (gl_of h1) hm (io_args H h4 ta_nil (star_one h3)) (star_one h3)
      · exact pi_rng1M (gl_of h1) hm (ta_cons (fun i e => hi ⟨i, e⟩) ((im X W fnb a H).1 h4) ta_nil (star_one h3)) (star_one h3)
    | range2 =>
      cases it <;> try exact nomatch (show false = true from h)
      rename_i fe es ks pos
      cases fe <;> try exact nomatch (show false = true from h)
      rename_i x p
      rcases es with _ | ⟨a, _ | ⟨b, _ | ⟨_, _⟩⟩⟩ <;> rcases ks with _ | ⟨_, _⟩ <;> try exact nomatch (show false = true from h)
      simp only [Bool.and_eq_true, decide_eq_true_eq] at h
      obtain ⟨⟨⟨⟨⟨⟨rfl, h1⟩, h2⟩, h3⟩, h4⟩, h5⟩, h6⟩ := h
      have hm := H.kit.bis "range" (by simpa using h2)
      match ms, h6, h5, il with
      | [m2], _, h5, il =>
        have hb := h5
        simp only [chkL, Bool.and_eq_true] at hb
        have pr := (il X W fnb H).1 [b] h5
        by_cases hi : ∃ i, m = .io i
        · obtain ⟨i, rfl⟩ := hi
          exact pi_rng2M (gl_of h1) hm (io_args H h4 pr (star_one h3)) (by rw [star_one h3, star_one hb.1.1]; rfl) (star_one hb.1.1)
        · exact pi_rng2M (gl_of h1) hm (ta_cons (fun i e => hi ⟨i, e⟩) ((im X W fnb a H).1 h4) pr (star_one h3)) (by rw [star_one h3, star_one hb.1.1]; rfl) (star_one hb.1.1)
    | keys => simp at h
  · cases h0
    exact (im X W fnb e H).1 h
theorem k_nil : OkK cl xc C S k [] := fun X W fnb pos H ks vs h => by
  cases ks with
  | nil =>
    cases vs with
    | nil => exact ⟨pps_nil, rfl, rfl, rfl⟩
    | cons _ _ => simp [chkK] at h
  | cons _ _ => simp [chkK] at h
theorem k_cons {a b : ME} {ms : List (ME × ME)} (ia : OkE cl xc C S k a) (ib : OkE cl xc C S k b) (il : OkK cl xc C S k ms) : OkK cl xc C S k ((a, b) :: ms) := fun X W fnb pos H ks vs h => by
  cases ks with
  | nil => simp [chkK] at h
  | cons kk ks =>
    cases vs with
    | nil => cases kk <;> simp [chkK] at h
    | cons v vs =>
      cases kk with
      | none => simp [chkK] at h
      | some kk =>
        simp only [chkK, Bool.and_eq_true] at h
        obtain ⟨g1, g2, g3, g4⟩ := il X W fnb pos H ks vs h.2
        exact ⟨pps_cons ((ia X W fnb kk H).1 h.1.1) ((ib X W fnb v H).1 h.1.2) g1, by simpa using g2, by simp [g3], by simp [g4]⟩
theorem o_none : OkO cl xc C S k none := fun X W fnb H e h => by
  cases e with
  | none => exact to_none
  | some _ => simp [chkO] at h
theorem o_some {m : ME} (im : OkE cl xc C S k m) : OkO cl xc C S k (some m) := fun X W fnb H e h => by
  cases e with
  | none => simp [chkO] at h
  | some e => exact to_some ((im X W fnb e H).1 (by simpa only [chkO] using h))
theorem e_bad {m : ME} (h : ∀ sc e, chk S sc m e = (false, false)) : OkE cl xc C S k m := fun X W fnb e H => okf (h _ _)
mutual
theorem ok_e : ∀ (m : ME), OkE cl xc C S k m
  | .var i => e_var i
  | .mv i => e_mv i
  | .fzv i => e_fzv i
  | .io i => e_io i
  | .con t => e_con t
  | .glob g => e_glob g
  | .bin op a b => e_bin (ok_e a) (ok_e b)
  | .neg a => e_neg (ok_e a)
  | .cmp op a b => e_cmp (ok_e a) (ok_e b)
  | .chain op op2 a b c => e_chain (ok_e a) (ok_e b) (ok_e c)
  | .and a b => e_and (ok_e a) (ok_e b)
  | .or a b => e_or (ok_e a) (ok_e b)
  | .not a => e_not (ok_e a)
  | .ite c a b => e_ite (ok_e c) (ok_e a) (ok_e b)
  | .lst es => e_lst (ok_l es)
  | .tup es => e_tup (ok_l es)
  | .dic T kvs => e_dic (ok_k kvs)
  | .sub a i => e_sub (ok_e a) (ok_e i)
  | .slice a l h => e_slice (ok_e a) (ok_o l) (ok_o h)
  | .bi f args => e_bi (ok_l args)
  | .call f args kns kws => e_call (ok_l args) (ok_l kws)
  | .meth m o args => e_meth (ok_e o) (ok_l args)
  | .mut m p args => e_bad fun sc e => by cases e <;> rfl
  | .att a f => e_bad fun sc e => by cases e <;> rfl
  | .lc elt tg kd its ifs => e_lc (ok_e elt) (ok_l its) (ok_l ifs)
  | .fz a => e_fz (ok_e a)
termination_by structural m => m
theorem ok_l : ∀ (ms : List ME), OkL cl xc C S k ms
  | [] => l_nil
  | m :: ms => l_cons (ok_e m) (ok_l ms)
termination_by structural m => m
theorem ok_k : ∀ (ms : List (ME × ME)), OkK cl xc C S k ms
  | [] => k_nil
  | (a, b) :: ms => k_cons (ok_e a) (ok_e b) (ok_k ms)
termination_by structural m => m
theorem ok_o : ∀ (m : Option ME), OkO cl xc C S k m
  | none => o_none
  | some m => o_some (ok_e m)
termination_by structural m => m
end
end
end PTS

set_option linter.all false
set_option maxRecDepth 100000
set_option maxHeartbeats 4000000
/-! the checker of statements -/
namespace PTS
open PySem L2 PT

def noComp : Expr → Bool
  | .ListComp _ _ _ _ => false
  | .SetComp _ _ _ _ => false
  | .DictComp _ _ _ _ _ => false
  | _ => true
/-- does the name's slot change ahead of the comprehension's end? -/
def swW (sc : Scope) (tg : Expr) : Expr → Bool
  | .ListComp a b s p => (match tg with
    | .Name t pos => (sc.names.lookup t == some .local) && (pos.line == (Expr.ListComp a b s p).pos.line) && !(s.names.any fun (n, k) => n == t && (k == .local || k == .cell))
    | _ => false)
  | .SetComp a b s p => (match tg with
    | .Name t pos => (sc.names.lookup t == some .local) && (pos.line == (Expr.SetComp a b s p).pos.line) && !(s.names.any fun (n, k) => n == t && (k == .local || k == .cell))
    | _ => false)
  | .DictComp a b c s p => (match tg with
    | .Name t pos => (sc.names.lookup t == some .local) && (pos.line == (Expr.DictComp a b c s p).pos.line) && !(s.names.any fun (n, k) => n == t && (k == .local || k == .cell))
    | _ => false)
  | _ => false
def noTup : Expr → Bool
  | .Tuple _ _ _ => false
  | _ => true
def noPair : Expr → Bool
  | .Tuple _ _ _ => false
  | .List _ _ => false
  | _ => true
/-- a pair of displays whose stores keep their order -/
def keepSt (sc : Scope) (tg e : Expr) : Bool := noPair tg || noTup e
mutual
def chkG (S : Sx) (fnb : Str → Bool) (sc : Scope) : MG → Expr → Bool
  | .nm i, .Name x _ => decide (S.N[i]? = some x) && locb fnb sc x
  | .tp gs, .Tuple es _ _ => chkGs S fnb sc gs es
  | .sub (.var i) k, .Subscript (.Name x _) ei _ => nameB S.N sc i x && noSlice ei && (chk S sc k ei).1
  | _, _ => false
termination_by structural g => g
def chkGs (S : Sx) (fnb : Str → Bool) (sc : Scope) : List MG → List Expr → Bool
  | [], [] => true
  | g :: gs, e :: es => noStar e && chkG S fnb sc g e && chkGs S fnb sc gs es
  | _, _ => false
termination_by structural g => g
end
def chkPut (S : Sx) (sc : Scope) (p k : ME) (tg : Expr) : Bool := match p, tg with
  | .var i, .Subscript (.Name x _) ei _ => nameB S.N sc i x && noSlice ei && (chk S sc k ei).1
  | _, _ => false
def noFzLc : Tn → ME → Bool
  | .nm _, .lc _ _ _ _ _ => true
  | _, _ => false
mutual
def chkS (S : Sx) (fnb : Str → Bool) (sc : Scope) : MS → Stmt → Bool
  | .pass, .Pass _ => true
  | .pass, .Expr (.Constant (.str _) _ _) _ => true
  | .brk, .Break _ => true
  | .cnt, .Continue _ => true
  | .expr m, .Expr e _ => noComp e && (chk S sc m e).1
  | .asg t m, .Assign [tg] e _ => chkTn S.N fnb sc t tg && keepSt sc tg e && (chk S sc m e).1 && (!(swW sc tg e) || noFzLc t m)
  | .asgG g m, .Assign [tg] e _ => noStar tg && chkG S fnb sc g tg && keepSt sc tg e && (chk S sc m e).1 && !(swW sc tg e)
  | .put p k m, .Assign [tg] e _ => chkPut S sc p k tg && (chk S sc m e).1
  | .ret none, .Return none _ => true
  | .ret (some m), .Return (some e) _ => (chk S sc m e).1
  | .ite c a b, .If t x y _ => (chk S sc c t).2 && chkSs S fnb sc a x && chkSs S fnb sc b y
  | .while c b, .While t x [] _ => (chk S sc c t).2 && chkSs S fnb sc b x
  | .for t k its b, .For tg it x [] _ => noSet it && chkTn S.N fnb sc t tg && chkIt S sc k its it && chkSs S fnb sc b x
  | _, _ => false
termination_by structural m => m
def chkSs (S : Sx) (fnb : Str → Bool) (sc : Scope) : List MS → List Stmt → Bool
  | [], [] => true
  | m :: ms, s :: ss => chkS S fnb sc m s && chkSs S fnb sc ms ss
  | _, _ => false
termination_by structural m => m
end
end PTS

set_option linter.all false
set_option maxRecDepth 100000
set_option maxHeartbeats 8000000
/-! the checker of statements is right -/
namespace PTS
open PySem L2 PT

section
variable {cl xc : Clt} {C : Cxt} {S : Sx} {k : Nat}
theorem sw_is {env : PySem.Env} (hk : env.scope.kind = .function) (tg e : Expr) (line : Nat) : swapsWithSole [tg] e line env = pure (swW env.scope tg e) := by
  have hb : env.blockKind = .function := by unfold Env.blockKind; rw [hk]; rfl
  have hn : ∀ t, env.kindOf t = env.scope.names.lookup t := fun t => rfl
  unfold swapsWithSole
  cases e <;> first | rfl | skip
  all_goals
    cases tg <;> first | rfl | skip
    all_goals
      unfold swapsWith swW
      simp only [hb, hn]
      rfl
theorem sw_none {env : PySem.Env} {e : Expr} (h : noComp e = true) (line : Nat) : swapsWith e none line env = pure false := by
  cases e <;> first | rfl | cases h
theorem keep_st {env : PySem.Env} {sc : Scope} {tg e : Expr} (h : keepSt sc tg e = true) : swappedStores [tg] e env = pure none := by
  unfold keepSt at h
  rw [Bool.or_eq_true] at h
  rcases h with h | h
  · cases tg <;> first | rfl | cases h
  · cases e <;> first | cases h | skip
    all_goals (cases tg <;> rfl)
theorem as_one {tg : Expr} {env : PySem.Env} (h : noStar tg = true) : (assignEach [tg] env).map (·.2) = [assign tg env] := by
  rw [assign_one h]
  rfl
theorem as_sub {o i : Expr} {pos : Pos} {env : PySem.Env} (h : noSlice i = true) (v : Value) : assign (.Subscript o i pos) env v = (do
      let ov ← holding [v] (eval o env)
      let iv ← holding [v, ov] (eval i env)
      standAt pos
      holding [v, ov, iv] (setItem ov iv v)
      release [v, ov, iv] []) := by
  cases i <;> first | rfl | cases h
theorem gs_star {S : Sx} {fnb : Str → Bool} {sc : Scope} {env : PySem.Env} : ∀ {gs : List MG} {es : List Expr}, chkGs S fnb sc gs es = true → (assignEach es env).length = gs.length ∧ (assignEach es env).findIdx? (·.1) = none
  | [], [], _ => ⟨rfl, rfl⟩
  | g :: gs, e :: es, h => by
    simp only [chkGs, Bool.and_eq_true] at h
    rw [assign_one h.1.1]
    have ih := gs_star (env := env) h.2
    refine ⟨by simp [ih.1], ?_⟩
    rw [List.findIdx?_cons]
    simp [ih.2]
  | [], _ :: _, h => by simp [chkGs] at h
  | _ :: _, [], h => by simp [chkGs] at h
mutual
theorem ok_g {X : Cx} {W : WX} {fnb : Str → Bool} (H : XOk cl xc C S k X W fnb) : ∀ (g : MG) {e : Expr}, chkG S fnb X.env.scope g e = true → PG X e (TGx cl xc W g.wr (asgE C g))
  | .nm i, e, h => by
    cases e with
    | Name x pos =>
      simp only [chkG, Bool.and_eq_true, decide_eq_true_eq] at h
      obtain ⟨h1, h2⟩ := loc_of H.fn h.2
      exact tg_nm (by rw [H.n]; exact H.nd) (by rw [H.n]; exact h.1) h1 h2
    | _ => simp [chkG] at h
  | .tp gs, e, h => by
    cases e with
    | Tuple es j pos =>
      simp only [chkG] at h
      have st := gs_star (env := X.env) h
      exact tg_tp H.calm (ok_gs H gs h) st.1 st.2
    | _ => simp [chkG] at h
  | .sub p kk, e, h => by
    cases p <;> try (cases e <;> simp [chkG] at h; done)
    rename_i i
    cases e <;> try (simp [chkG] at h; done)
    rename_i o ei pos
    cases o <;> try (simp [chkG] at h; done)
    rename_i x px
    simp only [chkG, Bool.and_eq_true] at h
    obtain ⟨h1, h2, h3, h4⟩ := name_of H h.1.1
    exact tg_sub (by have := H.units; omega) h1 h2 h3 h4 ((ok_e kk X W fnb ei H).1 h.2) (as_sub h.1.2)
termination_by structural g => g
theorem ok_gs {X : Cx} {W : WX} {fnb : Str → Bool} (H : XOk cl xc C S k X W fnb) : ∀ (gs : List MG) {es : List Expr}, chkGs S fnb X.env.scope gs es = true → PGs X es (TGxs cl xc W (wrGs gs) (asgEs C gs))
  | [], [], h => tgs_nil
  | g :: gs, e :: es, h => by
    simp only [chkGs, Bool.and_eq_true] at h
    exact tgs_cons (ok_g H g h.1.2) (ok_gs H gs h.2) (by rw [assign_one h.1.1]; rfl)
  | [], _ :: _, h => by simp [chkGs] at h
  | _ :: _, [], h => by simp [chkGs] at h
termination_by structural g => g
end
theorem ts_doc {X : Cx} {W : WX} {x : Str} {j : Nat} {pos pos' : Pos} : PS X (.Expr (.Constant (.str x) j pos) pos') (TSv cl xc W C .pass) := PS.imp ps_doc fun D σ H h => by
  obtain ⟨Bp, env, A, o, env', R, e, k⟩ := h
  cases e
  exact k σ H A (SPost.refl R)
theorem ok_asg {X : Cx} {W : WX} {fnb : Str → Bool} {t : Tn} {m : ME} {tg e : Expr} {pos : Pos} (H : XOk cl xc C S k X W fnb) (hk : X.env.scope.kind = .function) (h : (chkTn S.N fnb X.env.scope t tg && keepSt X.env.scope tg e && (chk S X.env.scope m e).1 && (!(swW X.env.scope tg e) || noFzLc t m)) = true) : PS X (.Assign [tg] e pos) (TSv cl xc W C (.asg t m)) := by
  simp only [Bool.and_eq_true] at h
  obtain ⟨⟨⟨h1, h2⟩, h3⟩, h4⟩ := h
  have hN : X.N.Nodup := by rw [H.n]; exact H.nd
  have hg : PG X tg (gT X.K t) := ok_tn hN H.calm H.fn t (by rw [H.n]; exact h1)
  cases hsw : swW X.env.scope tg e with
  | false => exact ts_asg ((ok_e m X W fnb e H).1 h3) hg (by rw [sw_is hk, hsw]) (keep_st h2) (as_one (tn_star h1))
  | true =>
    rw [hsw] at h4
    have h4 : noFzLc t m = true := h4
    cases t with
    | tp _ => cases h4
    | nm i =>
      cases m <;> try cases h4
      rename_i elt tn kd its ifs
      cases tg <;> try (simp [chkTn] at h1; done)
      rename_i y py
      simp only [chkTn, Bool.and_eq_true, decide_eq_true_eq] at h1
      cases e <;> try exact nomatch (show false = true from h3)
      rename_i x gens scope p2
      rcases gens with _ | ⟨⟨tt, it, fs, as⟩, _ | ⟨_, _⟩⟩ <;> try exact nomatch (show false = true from h3)
      have h3 : (decide (as = 0) && noSet it && chkIt S X.env.scope kd its it && blkC S.N X.env.scope scope (ownOf S.N tn.slots) && chkTn S.N (blkFn scope) (relS' scope X.env.scope) tn tt && chkTs S (relS' scope X.env.scope) ifs fs && (chk S (relS' scope X.env.scope) elt x).1) = true := h3
      simp only [Bool.and_eq_true, decide_eq_true_eq] at h3
      obtain ⟨⟨⟨⟨⟨⟨rfl, g0⟩, g1⟩, g2⟩, g3⟩, g4⟩, g5⟩ := h3
      have hyl : X.env.scope.names.lookup y = some .local := by
        have hsw := hsw
        simp only [swW, Bool.and_eq_true, beq_iff_eq] at hsw
        exact hsw.1.1
      have hs2 : swapsWith (.ListComp x [⟨tt, it, fs, 0⟩] scope p2) (some (.Name y py)) pos.line X.env = pure true := by
        have := sw_is hk (.Name y py) (.ListComp x [⟨tt, it, fs, 0⟩] scope p2) pos.line
        rw [hsw] at this
        exact this
      refine ts_setLc H.calm hN (by rw [H.n]; exact h1.1) hyl hs2 ((ok_l its X W fnb H).2.2.2.1 kd tt it g1) (blkOk_by (by rw [H.n]; exact g2)) (own_slots S.N tn.slots) (fun s Hh Cc cls fp => ?_) (fun s Hh Cc cls fp => ?_) (fun s Hh Cc cls fp => ?_) (no_fold g0)
      · have HB := H.blk s Hh scope Cc cls fp
        exact ok_tn (X := X.blk s Hh scope (compEnvC scope cls Cc X.env) fp) hN H.calm HB.fn tn (by rw [show (X.blk s Hh scope (compEnvC scope cls Cc X.env) fp).N = S.N from H.n]; exact g3)
      · exact (ok_l ifs _ _ _ (H.blk s Hh scope Cc cls fp)).2.2.1 fs g4
      · exact (ok_e elt _ _ _ _ (H.blk s Hh scope Cc cls fp)).1 g5
def OkS (cl xc : Clt) (C : Cxt) (S : Sx) (k : Nat) (m : MS) : Prop := ∀ (X : Cx) (W : WX) (fnb : Str → Bool) (st : Stmt), XOk cl xc C S k X W fnb → X.env.scope.kind = .function → PassesOwn (model X.prog X.w) X.A X.env X.xe → chkS S fnb X.env.scope m st = true → PS X st (TSv cl xc W C m)
def OkSs (cl xc : Clt) (C : Cxt) (S : Sx) (k : Nat) (m : List MS) : Prop := ∀ (X : Cx) (W : WX) (fnb : Str → Bool) (st : List Stmt), XOk cl xc C S k X W fnb → X.env.scope.kind = .function → PassesOwn (model X.prog X.w) X.A X.env X.xe → chkSs S fnb X.env.scope m st = true → PSs X st (TSs cl xc W C m)
theorem s_bad {m : MS} (h : ∀ fnb sc st, chkS S fnb sc m st = false) : OkS cl xc C S k m := fun X W fnb st H hk hp hc => by rw [h] at hc; cases hc
theorem s_put {p kk m : ME} : OkS cl xc C S k (.put p kk m) := fun X W fnb st H hk hp h => by
  cases st <;> try exact nomatch (show false = true from h)
  rename_i ts e pos
  rcases ts with _ | ⟨tg, _ | ⟨_, _⟩⟩ <;> try exact nomatch (show false = true from h)
  simp only [chkS, Bool.and_eq_true] at h
  obtain ⟨h, h3⟩ := h
  unfold chkPut at h
  split at h
  · rename_i i x px ei p2
    simp only [Bool.and_eq_true] at h
    obtain ⟨⟨h0, h1⟩, h2⟩ := h
    obtain ⟨g1, g2, g3, g4⟩ := name_of H h0
    refine ts_put (by have := H.units; omega) g1 g2 g3 g4 ((ok_e kk X W fnb ei H).1 h2) ((ok_e m X W fnb e H).1 h3) (as_sub h1) ?_ ?_ ?_
    · rw [sw_is hk]
      cases e <;> rfl
    · exact keep_st (sc := X.env.scope) rfl
    · rfl
  · cases h
mutual
theorem ok_s : ∀ (m : MS), OkS cl xc C S k m
  | .pass => fun X W fnb st H hk hp h => by
    cases st <;> try exact nomatch (show false = true from h)
    · rename_i e pos
      cases e <;> try exact nomatch (show false = true from h)
      rename_i c j p
      cases c <;> try exact nomatch (show false = true from h)
      exact ts_doc
    · exact ts_pass
  | .brk => fun X W fnb st H hk hp h => by
    cases st <;> try exact nomatch (show false = true from h)
    exact ts_brk
  | .cnt => fun X W fnb st H hk hp h => by
    cases st <;> try exact nomatch (show false = true from h)
    exact ts_cnt
  | .expr m => fun X W fnb st H hk hp h => by
    cases st <;> try exact nomatch (show false = true from h)
    rename_i e pos
    simp only [chkS, Bool.and_eq_true] at h
    exact ts_expr ((ok_e m X W fnb e H).1 h.2) (sw_none h.1 _)
  | .asg t m => fun X W fnb st H hk hp h => by
    cases st <;> try exact nomatch (show false = true from h)
    rename_i ts e pos
    rcases ts with _ | ⟨tg, _ | ⟨_, _⟩⟩ <;> try exact nomatch (show false = true from h)
    exact ok_asg H hk h
  | .asgG g m => fun X W fnb st H hk hp h => by
    cases st <;> try exact nomatch (show false = true from h)
    rename_i ts e pos
    rcases ts with _ | ⟨tg, _ | ⟨_, _⟩⟩ <;> try exact nomatch (show false = true from h)
    simp only [chkS, Bool.and_eq_true, Bool.not_eq_true'] at h
    obtain ⟨⟨⟨⟨h0, h1⟩, h2⟩, h3⟩, h4⟩ := h
    exact ts_asgG ((ok_e m X W fnb e H).1 h3) (ok_g H g h1) (by rw [sw_is hk, h4]) (keep_st h2) (as_one h0)
  | .put p kk m => s_put
  | .putA p f e => s_bad fun fnb sc st => by cases st <;> rfl
  | .del p kk => s_bad fun fnb sc st => by cases st <;> rfl
  | .aug i op e => s_bad fun fnb sc st => by cases st <;> rfl
  | .ret none => fun X W fnb st H hk hp h => by
    cases st <;> try exact nomatch (show false = true from h)
    rename_i e pos
    cases e with
    | none => exact ts_retN
    | some e => exact nomatch (show false = true from h)
  | .ret (some m) => fun X W fnb st H hk hp h => by
    cases st <;> try exact nomatch (show false = true from h)
    rename_i e pos
    cases e with
    | none => exact nomatch (show false = true from h)
    | some e => exact ts_ret ((ok_e m X W fnb e H).1 h)
  | .ite c a b => fun X W fnb st H hk hp h => by
    cases st <;> try exact nomatch (show false = true from h)
    rename_i t x y pos
    simp only [chkS, Bool.and_eq_true] at h
    exact ts_if ((ok_e c X W fnb t H).2 h.1.1) (ok_ss a X W fnb x H hk hp h.1.2) (ok_ss b X W fnb y H hk hp h.2)
  | .while c b => fun X W fnb st H hk hp h => by
    cases st <;> try exact nomatch (show false = true from h)
    rename_i t x y pos
    cases y with
    | cons _ _ => exact nomatch (show false = true from h)
    | nil =>
      simp only [chkS, Bool.and_eq_true] at h
      exact ts_while hp ((ok_e c X W fnb t H).2 h.1) (ok_ss b X W fnb x H hk hp h.2)
  | .for t kd its b => fun X W fnb st H hk hp h => by
    cases st <;> try exact nomatch (show false = true from h)
    rename_i tg it x y pos
    cases y with
    | cons _ _ => exact nomatch (show false = true from h)
    | nil =>
      simp only [chkS, Bool.and_eq_true] at h
      obtain ⟨⟨⟨h0, h1⟩, h2⟩, h3⟩ := h
      exact ts_for hp H.calm ((ok_l its X W fnb H).2.2.2.1 kd tg it h2) (ok_tn (by rw [H.n]; exact H.nd) H.calm H.fn t (by rw [H.n]; exact h1)) (ok_ss b X W fnb x H hk hp h3) (no_fold h0)
  | .raise c args => s_bad fun fnb sc st => by cases st <;> rfl
  | .tryx b hs => s_bad fun fnb sc st => by cases st <;> rfl
termination_by structural m => m
theorem ok_ss : ∀ (ms : List MS), OkSs cl xc C S k ms
  | [] => fun X W fnb st H hk hp h => by
    cases st with
    | nil => exact ts_nil
    | cons _ _ => exact nomatch (show false = true from h)
  | m :: ms => fun X W fnb st H hk hp h => by
    cases st with
    | nil => exact nomatch (show false = true from h)
    | cons s ss =>
      simp only [chkSs, Bool.and_eq_true] at h
      exact ts_cons (ok_s m X W fnb s H hk hp h.1) (ok_ss ms X W fnb ss H hk hp h.2)
termination_by structural m => m
end
end
end PTS

set_option linter.all false
set_option maxRecDepth 100000
set_option maxHeartbeats 2000000
/-! a def's promise from its text; the law's call; the head's facts without lists -/
namespace PTS
open PySem PySem.Spec PyProof.Rows L2 PT

/-! ### defs -/
theorem FnG.mono {P : Program} {w : World} {K : PySem.W.Frag} {mg : Str → Option Value} {base : Heap} {j k : Nat} {f : Addr} {fd : FuncData} {ps : List Str} {sp : Sp} (F : FnG P w K mg base j f fd ps sp) (h : j ≤ k) : FnG P w K mg base k f fd ps sp :=
  ⟨fun A outer s H args us vs Q E hr => F.run A outer s H args us vs Q E (hr.mono h)⟩
theorem FnE.mono {P : Program} {w : World} {K : PySem.W.Frag} {mg : Str → Option Value} {base : Heap} {cl xc : Clt} {j k : Nat} {x : Str} {e : FE} {f : Addr} {fd : FuncData} {ps : List Str} {ds : List Value} (F : FnE P w K mg base cl xc j x e f fd ps ds) (h : j ≤ k) : FnE P w K mg base cl xc k x e f fd ps ds :=
  ⟨F.g, F.keep, F.ok.mono h, F.np, F.dfl⟩
/-- a def of the text is what its small tree says -/
theorem def_ok {P : Program} {w : World} {K : PySem.W.Frag} {mg : Str → Option Value} {base : Heap} {cl xc : Clt} {C : Cxt} {S : Sx} {k : Nat} {x qual : Str} {prm : Arguments} {body : List Stmt} {scope : Scope} {dvs : List V} {f : Addr} {fd : FuncData} {ps : List Str} {dfl : List PV} {ios : List Nat} {ms : List MS}
    (F : FunD K x qual prm body scope dvs [] f fd) (kit : KitOk P w K mg base cl xc C S k) (sc : FnScope S.N ps scope) (hn : ios.Nodup) (hio : ∀ i ∈ ios, i ∉ wrs ms ∧ i < ps.length) (hc : chkSs S (fun _ => true) scope ms body = true) :
    FnG P w K mg base (k + 1) f fd ps (spOf cl xc ⟨ps.length, dfl, ios, bodyF C S.N.length ms ios⟩) := by
  obtain ⟨oc, od, dV, kV, doc, pm, an, cdv, ct, osl, rfl, lk, hcd, _, _⟩ := F.ex
  refine fn_ofG lk hcd sc hn hio fun A outer s H E W hr hg tk => ?_
  exact ok_ss ms _ W (fun _ => true) body ⟨kit, rfl, sc.nd, fun _ _ => rfl, rfl, hr, hg, tk⟩ sc.kind (passes_of rfl) hc
/-! ### the law's call -/
theorem law_callG {P : Program} {w : World} {K : PySem.W.Frag} {mg mb : Str → Option Value} {k : Nat} {fa a : Addr} {fd : FuncData} {x : Str} {sp : Sp} {s₁ : Shared} {vs : List Value} {ns : List Int}
    (KX : K.In s₁.heap) (hns : s₁.heap.Ns mainGlobals mg) (hb : s₁.heap.Ns builtinsNs mb) (hbb : ∀ x : Str, x ≠ "__name__" → mb x = bootBuiltins x) (hlim : s₁.heap.NoLimit) (hg : s₁.gens = #[])
    (ha : s₁.heap.get? a = some { cls := .type "list", data := .seq vs.toArray }) (hi : IntsAre vs ns) (hl : ns.length ≤ sizeLine) (hr : Room k callerA) (hK : K.lookup a = none)
    (F : ∀ base : Heap, K.In base → base.Ns mainGlobals mg → (∀ b o, s₁.heap.get? b = some o → b ≠ a → base.get? b = some o) → FnG P w K mg base k fa fd [x] sp) (hbind : ∀ (s : Shared) (u : Value), BindsTo s fd ⟨[u], []⟩ [(x, u)])
    (hsp : ∀ (H : Hp) (o : Obj), H a = some (.frz o (.lst (ns.map V.int))) → sp [.ref a] H (fun v _ => v = .bl true) fun _ _ _ => False) :
    codeAny (model P w) callerA (.call (.ref fa) ⟨[.ref a], []⟩) (fun r s' => r = .ok (.ret (.bool true)) ∧ OldK s₁.heap s'.heap ∧ s'.os = s₁.os ∧ AllBare s'.gens) s₁ := by
  have rv := vals_ints hi
  have lenV := hi.length
  let ob : Obj := { cls := .type "list", data := .seq vs.toArray }
  let H : Hp := fun b => if b = a then some (.frz ob (.lst (ns.map V.int))) else none
  have Ha : H a = some (.frz ob (.lst (ns.map V.int))) := if_pos rfl
  have Hn : ∀ {b : Addr}, b ≠ a → H b = none := fun hb => if_neg hb
  have hok : HOk P w H s₁.heap := fun b u z => by
    by_cases hb : b = a
    · subst hb
      rw [Ha] at z
      cases z
      exact ⟨ha, by rw [List.length_map]; exact hl, vs, _, rv, ha⟩
    · rw [Hn hb] at z
      cases z
  have noA : ∀ {b : Addr} {o : Obj} {es : Array DictEntry} {ep : Nat}, s₁.heap.get? b = some o → o.data = .dict es ep → H b = none := fun {b o es ep} e d => by
    refine Hn fun hb => ?_
    subst hb
    rw [ha] at e
    cases e
    cases (show Data.seq vs.toArray _ = Data.dict es ep from d)
  have nsK : ∀ {b : Addr} {m : Str → Option Value}, s₁.heap.Ns b m → (hidT s₁.heap H).Ns b m := fun {b m} ⟨o, es, ep, e, d, r⟩ => ⟨o, es, ep, hidT_get e (noA e d), d, r⟩
  have hKb : K.In (hidT s₁.heap H) := fun b o e => hidT_get (KX b o e) (Hn fun hb => by
    rw [hb, hK] at e; cases e)
  have hM : Mod K mg (hidT s₁.heap H) :=
    ⟨hKb, nsK hns, ⟨mb, nsK hb, hbb⟩, let ⟨mc, h1, h2⟩ := hlim; ⟨mc, nsK h1, h2⟩⟩
  have e0 : Env0 P w K mg (hidT s₁.heap H) callerA [] s₁ H :=
    ⟨rfl, hM, fun b o e => of_hidT e, Nat.le_of_eq (hidT_size _ _), trivial, fun b hb => absurd (show b ∈ ([] : List Addr) from hb) (by simp), hok, .of_eq hg⟩
  have go := (F _ hKb (nsK hns) fun b o e hb => hidT_get e (Hn hb)).run callerA [] s₁ H ⟨[.ref a], []⟩ [.ref a] [.ref a] _ _ hr rfl e0 (hbind s₁ (.ref a)) (.cons rfl .nil) rfl (hsp H ob Ha)
  refine codeAny_mono go fun r s' h => ?_
  cases r with
  | error e =>
    obtain ⟨_, _, _, _, _, _, _, _, _, _, _, _, z⟩ := h
    exact z.elim
  | ok fl =>
    cases fl with
    | next => exact h.elim
    | brk => exact h.elim
    | cont => exact h.elim
    | ret u =>
      obtain ⟨v, H', os, bare, un, hok', r', q⟩ := h
      have q' : v = .bl true := q
      subst q'
      obtain rfl : u = Value.bool true := r'
      refine ⟨rfl, OldK.of_keep fun b o e => ?_, os, bare⟩
      by_cases hb : b = a
      · subst hb
        have z2 := un.frzs b ob _ Ha
        obtain ⟨e1, _⟩ := hok b _ Ha
        obtain ⟨e2, _⟩ := hok' b _ z2
        rw [e] at e1
        cases e1
        exact e2
      · exact un.keep b o e (Hn hb) (by intro z; exact absurd (show b ∈ ([] : List Addr) from z) (by simp)) (by simp)
/-! ### the head's facts: no list in the part of the heap -/
def notL (o : Obj) : Bool := match o.cls with
  | .type n => n != "list"
  | _ => true
def asL (g : Addr → Option Obj) (n : Nat) : List Addr := (sysModules :: He.asD g n).filter fun b => match g b with
  | some o => notL o
  | none => false
def obsL (fa : List He.Fa) (fn : List He.DefD) (K : PySem.W.Frag) : He.AlD := ((K.all fun p => notL p.2) && ((K.lookup sysModules).isSome && (He.obsD fa fn K).1), (He.obsD fa fn K).2)
def obsLG (n : Nat) (fa : List He.Fa) (fn : List He.DefD) (g : Addr → Option Obj) : He.AlD := obsL fa fn (He.frG g (asL g n))
def hookL (n : Nat) (fa : List He.Fa) (fn : List He.DefD) : PySem.W.Hook where
  α := He.AlD
  obs := fun s => obsLG n fa fn s.heap.get?
  val := fun _ => He.valD fn
  says := fun _ h => ∃ K : PySem.W.Frag, K.In h ∧ obsL fa fn K = He.valD fn
  of := fun _ _ e => ⟨_, He.frG_in, e⟩
  keeps := fun _ _ _ ⟨K, hK, c⟩ k => ⟨K, PySem.W.Frag.In.keeps hK k, c⟩
theorem obsLG_eq {n : Nat} {fa : List He.Fa} {fn : List He.DefD} {g : Addr → Option Obj} {s : Shared} (h : ∀ a, g a = s.heap.get? a) : obsLG n fa fn g = (hookL n fa fn).obs s := by
  have e : g = s.heap.get? := funext h
  rw [e]
  rfl
theorem says_of {fa : List He.Fa} {fn : List He.DefD} {K : PySem.W.Frag} (h : obsL fa fn K = He.valD fn) : He.SaysD fa fn K ∧ (∃ o, K.lookup sysModules = some o) ∧ ∀ a o, K.lookup a = some o → notL o = true := by
  have h1 : ((K.all fun p => notL p.2) && ((K.lookup sysModules).isSome && (He.obsD fa fn K).1)) = true := congrArg (fun z : He.AlD => z.1) h
  have h2 : (He.obsD fa fn K).2 = (He.valD fn).2 := (show (obsL fa fn K).2 = (He.valD fn).2 by rw [h])
  rw [Bool.and_eq_true, Bool.and_eq_true] at h1
  refine ⟨Prod.ext h1.2.2 h2, Option.isSome_iff_exists.mp h1.2.1, fun a o e => ?_⟩
  have mem : (a, o) ∈ K := by
    clear h1 h2 h
    induction K with
    | nil => cases e
    | cons p K ih =>
      obtain ⟨b, q⟩ := p
      rw [List.lookup_cons] at e
      cases hb : a == b with
      | true =>
        rw [hb] at e
        cases e
        have : a = b := by simpa using hb
        rw [this]
        exact List.mem_cons_self
      | false =>
        rw [hb] at e
        exact List.mem_cons_of_mem _ (ih e)
  exact List.all_eq_true.mp h1.1 _ mem
/-- the law, from what its def promises -/
theorem walk_ofG {l : PySem.W.OpenLaw} {n k : Nat} {q : Program} {loose : List Str} {XP : (Str → Option Value) → Heap → Prop} {fa : List He.Fa} {fn : List He.DefD} {nh : Nat} {d : DefRec} {x : Str}
    (hn : l.most = some n) (hn2 : n ≤ sizeLine) (hdf : d.params.defaults = []) (hr : Room k callerA)
    (F : ∀ (w : World) (mg : Str → Option Value) (fad : Addr) (h : Heap) (K : PySem.W.Frag), K.In h → He.SaysD fa fn K → h.Ns mainGlobals mg → mg d.name = some (.ref fad) →
      ∃ (fd : FuncData) (sp : Sp), (∀ (s : Shared) (u : Value), BindsTo s fd ⟨[u], []⟩ [(x, u)]) ∧
        (∀ (H : Hp) (o : Obj) (a : Addr) (ns : List Int), ns.length ≤ n → H a = some (.frz o (.lst (ns.map V.int))) → sp [.ref a] H (fun v _ => v = .bl true) fun _ _ _ => False) ∧
        ∀ base : Heap, K.In base → base.Ns mainGlobals mg → (∃ o, base.get? sysModules = some o) → FnG l.prog w K mg base k fad fd [x] sp) :
    PySem.W.WalkO q loose XP (hookL nh fa fn).says l.row.toRowW d [] (fun f vs => PySem.call f vs) := by
  refine Att.attach_call hn hdf fun w s₀ s₁ mg mb fad o pm cd doc a vs ns G Y ho hd hcd hmg hobj hints hlen hg => ?_
  obtain ⟨K, KX, c⟩ := Y
  obtain ⟨c1, ⟨om, cm⟩, c2⟩ := says_of c
  obtain ⟨fd, sp, hb, hsp, hF⟩ := F w mg fad _ K KX c1 G.T.g hmg
  have hK : K.lookup a = none := by
    cases e : K.lookup a with
    | none => rfl
    | some o =>
      have e2 := KX a o e
      rw [hobj] at e2
      cases e2
      exact nomatch (show false = true from c2 a _ e)
  exact law_callG KX G.T.g G.T.b G.T.builtins G.T.nolimit hg hobj hints (Nat.le_trans hlen hn2) hr hK (fun base h1 h2 h3 => hF base h1 h2 ⟨om, h1 _ _ cm⟩) hb fun H o hS => hsp H o a ns hlen hS
end PTS

set_option linter.all false
set_option maxRecDepth 100000
set_option maxHeartbeats 2000000
/-! the table of defs grows -/
namespace PTS
open PySem PySem.Spec PyProof.Rows L2 PT

/-- the meanings of the defs so far -/
def Ct (gl : String → Option PV) (fuel : Nat) (tab : List (String × FE)) : Cxt := ⟨fun f => tab.lookup f, gl, rpS, fuel⟩
theorem Ct_fn {gl : String → Option PV} {fuel : Nat} {tab : List (String × FE)} {f : String} : (Ct gl fuel tab).fn f = tab.lookup f := rfl
theorem Ct_gl {gl : String → Option PV} {fuel : Nat} {tab : List (String × FE)} : (Ct gl fuel tab).gl = gl := rfl
theorem Ct_rp {gl : String → Option PV} {fuel : Nat} {tab : List (String × FE)} : (Ct gl fuel tab).rp = rpS := rfl
theorem KitOk.add {P : Program} {w : World} {K : PySem.W.Frag} {mg : Str → Option Value} {base : Heap} {cl xc : Clt} {gl : String → Option PV} {fuel : Nat} {tab : List (String × FE)} {S : Sx} {k : Nat} {x : String} {qual : Str} {prm : Arguments} {body : List Stmt} {scope : Scope} {dvs : List V} {f : Addr} {fd : FuncData} {ps N : List Str} {dfl : List PV} {ds : List Value} {ios : List Nat} {ms : List MS} {shapes : List (Nat × List Nat)}
    (kit : KitOk P w K mg base cl xc (Ct gl fuel tab) S k) (F : FunD K (fS x) qual prm body scope dvs [] f fd) (g : mg (fS x) = some (.ref f)) (sc : FnScope N ps scope) (hn : ios.Nodup) (hio : ∀ i ∈ ios, i ∉ wrs ms ∧ i < ps.length) (hc : chkSs { S with N := N } (fun _ => true) scope ms body = true)
    (hd : ∃ dv : List V, Vals dv ds ∧ ∀ H, RepFs cl H dv dfl) (sh : ∀ np kns, (np, kns) ∈ shapes → Shape K fd ps ds np kns) :
    KitOk P w K mg base cl xc (Ct gl fuel ((x, ⟨ps.length, dfl, ios, bodyF (Ct gl fuel tab) N.length ms ios⟩) :: tab)) { S with fns := (x, ⟨ps, shapes⟩) :: S.fns } (k + 1) := by
  have kitN : KitOk P w K mg base cl xc (Ct gl fuel tab) { S with N := N } k := ⟨kit.fns, kit.gls, kit.bis, kit.rp, kit.kin, kit.sm⟩
  have G := def_ok (dfl := dfl) (ms := ms) F kitN sc hn hio hc
  refine ⟨fun f' i hf => ?_, kit.gls, kit.bis, rfl, kit.kin, kit.sm⟩
  have hf : ((x, (⟨ps, shapes⟩ : FI)) :: S.fns).lookup f' = some i := hf
  show ∃ g fa fd ds, ((x, (⟨ps.length, dfl, ios, bodyF (Ct gl fuel tab) N.length ms ios⟩ : FE)) :: tab).lookup f' = some g ∧ _
  rw [List.lookup_cons] at hf ⊢
  cases hx : f' == x with
  | true =>
    rw [hx] at hf
    cases hf
    have e : f' = x := by simpa using hx
    subst e
    exact ⟨_, f, fd, ds, rfl, ⟨g, F.kp, G, rfl, hd⟩, sh⟩
  | false =>
    rw [hx] at hf
    obtain ⟨g', fa, fd', ds', h1, h2, h3⟩ := kit.fns f' i hf
    exact ⟨g', fa, fd', ds', h1, h2.mono (Nat.le_succ k), h3⟩
theorem fact_mem {fa : List He.Fa} {fn : List He.DefD} {K : PySem.W.Frag} {f : He.Fa} (c : He.SaysD fa fn K) (h : f ∈ fa) : f.ok K = true := by
  obtain ⟨i, hi⟩ := List.getElem?_of_mem h
  exact c.fact i hi
/-- the facts' list: free names, defs, constants -/
def facts (bis defs : List String) (cons : List He.Fa) : List He.Fa := bis.map (fun b => .free (fS b)) ++ (defs.map (fun b => .glo (fS b)) ++ cons)
theorem facts_free {bis defs : List String} {cons : List He.Fa} {fn : List He.DefD} {K : PySem.W.Frag} {h : Heap} {mg : Str → Option Value} (X : K.In h) (G : h.Ns mainGlobals mg) (c : He.SaysD (facts bis defs cons) fn K) : ∀ b ∈ bis, mg (fS b) = none := fun b hb =>
  He.free_ok X G (fact_mem c (List.mem_append_left _ (List.mem_map_of_mem hb)))
theorem facts_glo {bis defs : List String} {cons : List He.Fa} {fn : List He.DefD} {K : PySem.W.Frag} {h : Heap} {mg : Str → Option Value} (X : K.In h) (G : h.Ns mainGlobals mg) (c : He.SaysD (facts bis defs cons) fn K) {b : String} (hb : b ∈ defs) : mg (fS b) = some (.ref (He.ga K (fS b))) :=
  He.glo_ok X G (fact_mem c (List.mem_append_right _ (List.mem_append_left _ (List.mem_map_of_mem hb))))
theorem facts_str {bis defs : List String} {cons : List He.Fa} {fn : List He.DefD} {K : PySem.W.Frag} {h : Heap} {mg : Str → Option Value} {cl : Clt} (X : K.In h) (G : h.Ns mainGlobals mg) (c : He.SaysD (facts bis defs cons) fn K) {g : String} {z : Tx} (hb : He.Fa.str (fS g) (tS z) ∈ cons) : ∃ v u, mg (fS g) = some u ∧ RelV v u ∧ ∀ H, RepF cl H v (.str z) := by
  obtain ⟨t, e⟩ := He.str_ok X G (fact_mem c (List.mem_append_right _ (List.mem_append_right _ hb)))
  exact ⟨.str (tS z), _, e, ⟨t, rfl⟩, fun H => by simp only [RepF]⟩
theorem facts_int {bis defs : List String} {cons : List He.Fa} {fn : List He.DefD} {K : PySem.W.Frag} {h : Heap} {mg : Str → Option Value} {cl : Clt} (X : K.In h) (G : h.Ns mainGlobals mg) (c : He.SaysD (facts bis defs cons) fn K) {g : String} {z : Int} (hb : He.Fa.int (fS g) z ∈ cons) : ∃ v u, mg (fS g) = some u ∧ RelV v u ∧ ∀ H, RepF cl H v (.int z) := by
  obtain ⟨t, e⟩ := He.int_ok X G (fact_mem c (List.mem_append_right _ (List.mem_append_right _ hb)))
  exact ⟨.int z, _, e, ⟨t, rfl⟩, fun H => by simp only [RepF]⟩
theorem repFs_ints {cl : Clt} {H : Hp} : ∀ ns : List Int, RepFs cl H (ns.map V.int) (ns.map PV.int)
  | [] => by simp [RepFs]
  | n :: ns => by
    simp only [List.map_cons, RepFs, RepF]
    exact ⟨trivial, repFs_ints ns⟩
/-- what the law's def is asked -/
theorem law_sp {cl xc : Clt} {sem : FSem} {ns : List Int} {H : Hp} {o : Obj} {a : Addr} (h : sem [.own (.fz (.lst (ns.map .int)))] = some (.ok (.fz (.bl true)), [])) (ha : H a = some (.frz o (.lst (ns.map V.int)))) : spOf cl xc ⟨1, [], [], sem⟩ [.ref a] H (fun v _ => v = .bl true) fun _ _ _ => False := by
  refine ⟨[.own (.fz (.lst (ns.map .int)))], [[]], fun _ => False, .ok (.fz (.bl true)), [], ⟨nofun, ⟨.ref a, rfl, ?_⟩, trivial⟩, by simp, fun a h => by simp at h, fun a h => h.elim, h, ?_⟩
  · simp only [RepO, RepF]
    exact ⟨trivial, a, o, _, rfl, ha, repFs_ints ns⟩
  · intro v H' as Ao ro _ _ _ _
    have := (RepO.fzF (m := .own) ro).2
    simpa only [RepF] using this
/-- a call's shape, by what is bound -/
theorem shape_of {K : PySem.W.Frag} {x qual : Str} {prm : Arguments} {body : List Stmt} {scope : Scope} {f : Addr} {fd : FuncData} {ps : List Str} {np : Nat} {kns : List Nat} (F : FunD K x qual prm body scope [] [] f fd)
    (h : ∀ (kV doc pm : Value) (an : Option Addr) (cdv ct : Value) (us ws zs : List Value), us.length = np → ws.length = kns.length → asmL ps.length ([] : List Value) us kns ws = some zs → bindArgs (PySem.W.fnOf x qual prm body scope .none kV doc pm an cdv ct) ⟨us, (kns.filterMap fun j => ps[j]?).zip ws⟩ = pure (ps.zip zs)) : Shape K fd ps [] np kns := by
  obtain ⟨oc, od, dV, kV, doc, pm, an, cdv, ct, osl, rfl, lk, hcd, hD, hK⟩ := F.ex
  rcases hD with ⟨_, rfl⟩ | ⟨e, _⟩
  · exact fun s us ws zs X hu hw e => BindsTo.of_eq (h kV doc pm an cdv ct us ws zs hu hw e)
  · exact absurd rfl e
theorem no_dfl (cl : Clt) : ∃ dv : List V, Vals dv ([] : List Value) ∧ ∀ H, RepFs cl H dv [] := ⟨[], .nil, fun H => by simp [RepFs]⟩
theorem kit0 {P : Program} {w : World} {K : PySem.W.Frag} {mg : Str → Option Value} {base : Heap} {cl xc : Clt} {gl : String → Option PV} {fuel : Nat} {gls bis : List String} (h1 : ∀ g ∈ gls, ∃ v u t, gl g = some t ∧ mg (fS g) = some u ∧ RelV v u ∧ ∀ H, RepF cl H v t) (h2 : ∀ b ∈ bis, mg (fS b) = none) (h3 : K.In base) (h4 : ∃ o, base.get? sysModules = some o) : KitOk P w K mg base cl xc (Ct gl fuel []) ⟨[], gls, bis, []⟩ 0 :=
  ⟨fun f i hf => (nomatch (show none = some i from hf)), h1, h2, rfl, h3, h4⟩
end PTS

set_option linter.all false
set_option maxRecDepth 100000
set_option maxHeartbeats 2000000
/-! how long a repr gets -/
namespace PTS
open PySem PySem.Spec PyProof.Rows L2 PT

def ascT (x : Tx) : Bool := x.all fun c => decide (c < 128)
def costI (i : Int) : Nat := (PyData.shown (.int i)).length
def cost1 : K1 → Nat
  | .i n => costI n
  | .s t => 2 + 4 * t.length
def costs1 : List K1 → Nat
  | [] => 0
  | a :: as => cost1 a + 2 + costs1 as
def costK : Ky → Nat
  | .one a => cost1 a
  | .tup as => 4 + costs1 as
def asc1 : K1 → Bool
  | .i _ => true
  | .s t => ascT t
def ascK : Ky → Bool
  | .one a => asc1 a
  | .tup as => as.all asc1
mutual
def cost : PV → Nat
  | .non => 4
  | .bl _ => 5
  | .int i => costI i
  | .str x => 2 + 4 * x.length
  | .lst xs => 2 + costs xs
  | .tup xs => 4 + costs xs
  | .dic kvs => 2 + costk kvs
  | .ins _ _ => 4
termination_by structural t => t
def costs : List PV → Nat
  | [] => 0
  | x :: xs => cost x + 2 + costs xs
termination_by structural t => t
def costk : List (Ky × PV) → Nat
  | [] => 0
  | (k, x) :: xs => costK k + cost x + 4 + costk xs
termination_by structural t => t
end
mutual
def asc : PV → Bool
  | .str x => ascT x
  | .lst xs => ascs xs
  | .tup xs => ascs xs
  | .dic kvs => asck kvs
  | _ => true
termination_by structural t => t
def ascs : List PV → Bool
  | [] => true
  | x :: xs => asc x && ascs xs
termination_by structural t => t
def asck : List (Ky × PV) → Bool
  | [] => true
  | (k, x) :: xs => ascK k && asc x && asck xs
termination_by structural t => t
end
theorem rc_len : ∀ c < 128, (Builtin.Str.reprChar 34 c).length ≤ 4 ∧ (Builtin.Str.reprChar 39 c).length ≤ 4 := by decide +kernel
theorem repr_len {x : Tx} (h : ascT x = true) : (reprText (tS x)).length ≤ 2 + 4 * x.length := by
  rw [← reprLen_eq]
  have hq : reprQuote (tS x) = 34 ∨ reprQuote (tS x) = 39 := by
    unfold reprQuote
    split
    · exact .inl rfl
    · exact .inr rfl
  generalize reprQuote (tS x) = q at hq
  have e : (tS x).cps.foldl (fun n c => n + (Builtin.Str.reprChar q c).length) 2 = x.foldl (fun n c => n + (Builtin.Str.reprChar q c).length) 2 := by simp [tS]
  rw [e]
  have key : ∀ (x : Tx) (n : Nat), ascT x = true → x.foldl (fun n c => n + (Builtin.Str.reprChar q c).length) n ≤ n + 4 * x.length := fun x => by
    induction x with
    | nil => intro n _; simp
    | cons c x ih =>
      intro n h
      simp only [ascT, List.all_cons, Bool.and_eq_true, decide_eq_true_eq] at h
      have := ih (n + (Builtin.Str.reprChar q c).length) (by simpa [ascT] using h.2)
      have hc := rc_len c h.1
      have : (Builtin.Str.reprChar q c).length ≤ 4 := by
        rcases hq with rfl | rfl
        · exact hc.1
        · exact hc.2
      simp only [List.foldl_cons, List.length_cons]
      omega
  exact key x 2 h
theorem textFrom_le : ∀ (ts : List Str) (k : Nat) (acc : Str), (textFrom k acc ts).length ≤ acc.length + piled ts
  | [], k, acc => by simp [textFrom, piled]
  | t :: ts, k, acc => by
    unfold textFrom
    have := textFrom_le ts (k + 1) (acc ++ (if k > 0 then ", " else "" : String) ++ t)
    rw [piled_cons]
    have e : (acc ++ (if k > 0 then ", " else "" : String) ++ t : Str).length ≤ acc.length + 2 + t.length := by
      rw [strLen_append, strLen_append]
      by_cases h : k > 0
      · rw [if_pos h]
        show acc.length + 2 + t.length ≤ _
        omega
      · rw [if_neg h]
        show acc.length + 0 + t.length ≤ _
        omega
    omega
theorem join_le (ts : List Str) : (Str.join ", " ts).length ≤ piled ts := by
  cases ts with
  | nil => exact Nat.le_refl 0
  | cons t ts => have := join_length_add (t :: ts) (by simp); omega
theorem listText_le (ts : List Str) : (listText ts).length ≤ 2 + piled ts := by
  unfold listText
  rw [strLen_append]
  have := textFrom_le ts 0 "["
  have e1 : ("[" : Str).length = 1 := by decide +kernel
  have e2 : ("]" : Str).length = 1 := by decide +kernel
  omega
theorem tupleText_le (ts : List Str) : (tupleText ts).length ≤ 4 + piled ts := by
  unfold tupleText
  rw [strLen_append, strLen_append]
  have := join_le ts
  have e1 : ("(" : Str).length = 1 := by decide +kernel
  have e2 : (((if ts.length == 1 then ",)" else ")" : String) : Str)).length ≤ 2 := by
    split
    · decide +kernel
    · decide +kernel
  omega
theorem dictText_le (ts : List Str) : (dictText ts).length ≤ 2 + piled ts := by
  unfold dictText
  rw [strLen_append, strLen_append]
  have := join_le ts
  have e1 : ("{" : Str).length = 1 := by decide +kernel
  have e2 : ("}" : Str).length = 1 := by decide +kernel
  omega
theorem k1_le : ∀ (a : K1), asc1 a = true → (PyData.shown (k1D a)).length ≤ cost1 a
  | .i n, _ => Nat.le_refl _
  | .s t, h => by
    simp only [k1D, PyData.shown, cost1]
    exact repr_len h
theorem k1s_le : ∀ (as : List K1), as.all asc1 = true → piled (PyData.shownAll (as.map k1D)) ≤ costs1 as
  | [], _ => by simp [PyData.shownAll, piled, costs1]
  | a :: as, h => by
    simp only [List.all_cons, Bool.and_eq_true] at h
    simp only [List.map_cons, PyData.shownAll, piled_cons, costs1]
    have h1 := k1_le a h.1
    have h2 := k1s_le as h.2
    omega
theorem ky_le (k : Ky) (h : ascK k = true) : (PyData.shown (kyD k)).length ≤ costK k := by
  cases k with
  | one a => exact k1_le a h
  | tup as =>
    simp only [kyD, PyData.shown, costK]
    have h1 := tupleText_le (PyData.shownAll (as.map k1D))
    have h2 := k1s_le as h
    omega
mutual
theorem shown_le : ∀ (t : PV), asc t = true → (PyData.shown (pd t)).length ≤ cost t
  | .non, _ => by simp only [pd, PyData.shown, cost]; decide +kernel
  | .bl b, _ => by cases b <;> (simp only [pd, PyData.shown, cost]; decide +kernel)
  | .int i, _ => by simp only [pd, cost, costI]; exact Nat.le_refl _
  | .str x, h => by
    simp only [asc] at h
    simp only [pd, PyData.shown, cost]
    exact repr_len h
  | .lst xs, h => by
    simp only [asc] at h
    simp only [pd, PyData.shown, cost]
    have h1 := listText_le (PyData.shownAll (pds xs))
    have h2 := showns_le xs h
    omega
  | .tup xs, h => by
    simp only [asc] at h
    simp only [pd, PyData.shown, cost]
    have h1 := tupleText_le (PyData.shownAll (pds xs))
    have h2 := showns_le xs h
    omega
  | .dic kvs, h => by
    simp only [asc] at h
    simp only [pd, PyData.shown, cost]
    have h1 := dictText_le (PyData.shownKv (pdk kvs))
    have h2 := shownk_le kvs h
    omega
  | .ins _ _, _ => by simp only [pd, PyData.shown, cost]; decide +kernel
termination_by structural t => t
theorem showns_le : ∀ (xs : List PV), ascs xs = true → piled (PyData.shownAll (pds xs)) ≤ costs xs
  | [], _ => by simp [pds, PyData.shownAll, piled, costs]
  | x :: xs, h => by
    simp only [ascs, Bool.and_eq_true] at h
    simp only [pds, PyData.shownAll, piled_cons, costs]
    have h1 := shown_le x h.1
    have h2 := showns_le xs h.2
    omega
termination_by structural t => t
theorem shownk_le : ∀ (xs : List (Ky × PV)), asck xs = true → piled (PyData.shownKv (pdk xs)) ≤ costk xs
  | [], _ => by simp [pdk, PyData.shownKv, piled, costk]
  | (k, x) :: xs, h => by
    simp only [asck, Bool.and_eq_true] at h
    simp only [pdk, PyData.shownKv, piled_cons, costk]
    have h0 := ky_le k h.1.1
    have h1 := shown_le x h.1.2
    have h2 := shownk_le xs h.2
    rw [strLen_append, strLen_append]
    have e1 : (": " : Str).length = 2 := by decide +kernel
    omega
termination_by structural t => t
end
/-- a tree has a repr -/
theorem rp_ok {t : PV} (h1 : noIns t = true) (h2 : (pd t).showable = true) (h3 : (pd t).depth ≤ 60) (h4 : asc t = true) (h5 : cost t ≤ 16777216) : ∃ x, rpS t = some x := by
  unfold rpS
  have h6 : (pd t).shown.length ≤ sizeLine := by have := shown_le t h4; rw [← line_eq]; unfold PT.line; omega
  rw [h1, h2]
  simp [h3, h6]
/-! whose first is a moved slot -/
theorem io_var : ∀ i, ioOf (.var i) = none := fun _ => rfl
theorem io_mv : ∀ i, ioOf (.mv i) = none := fun _ => rfl
theorem io_fzv : ∀ i, ioOf (.fzv i) = none := fun _ => rfl
theorem io_con : ∀ t, ioOf (.con t) = none := fun _ => rfl
theorem io_glob : ∀ g, ioOf (.glob g) = none := fun _ => rfl
theorem io_bin : ∀ o a b, ioOf (.bin o a b) = none := fun _ _ _ => rfl
theorem io_neg : ∀ a, ioOf (.neg a) = none := fun _ => rfl
theorem io_cmp : ∀ o a b, ioOf (.cmp o a b) = none := fun _ _ _ => rfl
theorem io_chain : ∀ o p a b c, ioOf (.chain o p a b c) = none := fun _ _ _ _ _ => rfl
theorem io_and : ∀ a b, ioOf (.and a b) = none := fun _ _ => rfl
theorem io_or : ∀ a b, ioOf (.or a b) = none := fun _ _ => rfl
theorem io_not : ∀ a, ioOf (.not a) = none := fun _ => rfl
theorem io_ite : ∀ c a b, ioOf (.ite c a b) = none := fun _ _ _ => rfl
theorem io_lst : ∀ es, ioOf (.lst es) = none := fun _ => rfl
theorem io_tup : ∀ es, ioOf (.tup es) = none := fun _ => rfl
theorem io_dic : ∀ T kvs, ioOf (.dic T kvs) = none := fun _ _ => rfl
theorem io_sub : ∀ a i, ioOf (.sub a i) = none := fun _ _ => rfl
theorem io_slice : ∀ a l h, ioOf (.slice a l h) = none := fun _ _ _ => rfl
theorem io_bi : ∀ f es, ioOf (.bi f es) = none := fun _ _ => rfl
theorem io_call : ∀ f es ks ws, ioOf (.call f es ks ws) = none := fun _ _ _ _ => rfl
theorem io_meth : ∀ m o es, ioOf (.meth m o es) = none := fun _ _ _ => rfl
theorem io_mut : ∀ m p es, ioOf (.mut m p es) = none := fun _ _ _ => rfl
theorem io_att : ∀ a f, ioOf (.att a f) = none := fun _ _ => rfl
theorem io_lc : ∀ e t k is fs, ioOf (.lc e t k is fs) = none := fun _ _ _ _ _ => rfl
theorem io_fz : ∀ a, ioOf (.fz a) = none := fun _ => rfl
theorem io_io (i : Nat) : ioOf (.io i) = some i := rfl
end PTS

set_option Elab.async false
set_option linter.all false
set_option maxRecDepth 100000
set_option maxHeartbeats 0
namespace K11
open PySem PySem.Spec PyProof.Rows L2 PT PTS
def top (i : Nat) : Stmt := PySem.Challenge.pw_backwater_k11_names.main.body.getD i (.Pass ⟨0, 0, 0, 0⟩)
/-- def 3: is_name(thing); changed: [] -/
def x_is_name_1 : ME := .lc (.cmp .isin (.var 1) (.glob "LETTERS")) (.nm 1) .str [.var 0] []
theorem io_x_is_name_1 : ioOf x_is_name_1 = none := rfl
def m_is_name : List MS :=
  [.ite (.or (.not (.bi (.isi "str") [.var 0])) (.not (.chain .le .le (.con (.int 1)) (.bi .len [.var 0]) (.glob "LONGEST"))))
    [.ret (some (.con (.bl false)))]
    [],
  .ret (some (.bi .all [x_is_name_1]))]
def n_is_name : List Str := ["thing", "sign"]
def p_is_name : List Str := ["thing"]
/-- def 5: _law_pot(_law_script, _law_k); changed: [] -/

def m_law_pot : List MS :=
  [.asg (.nm 2) (.ite (.cmp .lt (.var 1) (.bi .len [.var 0])) (.sub (.var 0) (.var 1)) (.con (.int 0))),
  .ret (some (.lst [.bi .max2 [.con (.int 0), .bin .sub (.bi .abs [.var 2]) (.bin .pow (.con (.int 10)) (.con (.int 18)))], .bin .add (.bin .add (.bin .mod (.bi .abs [.var 2]) (.con (.int 2147483587))) (.bin .mul (.con (.int 131)) (.var 1))) (.con (.int 7))]))]
def n_law_pot : List Str := ["_law_script", "_law_k", "_law_cell"]
def p_law_pot : List Str := ["_law_script", "_law_k"]
/-- def 6: _law_draw(_law_pot_here, _law_many); changed: [0] -/

def m_law_draw : List MS :=
  [.ite (.cmp .gt (.sub (.var 0) (.con (.int 0))) (.con (.int 0)))
    [.asgG (.tp [(.sub (.var 0) (.con (.int 0))), (.nm 2)]) (.bi .divmod [.sub (.var 0) (.con (.int 0)), .var 1]),
    .ret (some (.mv 2))]
    [],
  .put (.var 0) (.con (.int 1)) (.bin .mod (.bin .add (.bin .mul (.sub (.var 0) (.con (.int 1))) (.con (.int 48271))) (.con (.int 20011))) (.con (.int 2147483647))),
  .ret (some (.bin .mod (.bin .fdiv (.bin .mod (.bin .mul (.sub (.var 0) (.con (.int 1))) (.sub (.var 0) (.con (.int 1)))) (.con (.int 2147483629))) (.con (.int 7))) (.var 1)))]
def n_law_draw : List Str := ["_law_pot_here", "_law_many", "_law_digit"]
def p_law_draw : List Str := ["_law_pot_here", "_law_many"]
/-- def 7: _law_word(_law_pot_here, _law_size); changed: [0] -/
def x_law_word_1 : ME := .lc (.sub (.con (.str [97, 98, 99, 100, 101, 102, 103, 104, 105, 106, 107, 108, 109, 110, 111, 112, 113, 114, 115, 116, 117, 118, 119, 120, 121, 122])) (.call "_law_draw" [.io 0, .con (.int 26)] [] [])) (.nm 2) .range1 [.var 1] []
theorem io_x_law_word_1 : ioOf x_law_word_1 = none := rfl
def m_law_word : List MS :=
  [.ret (some (.meth .join (.con (.str [])) [x_law_word_1]))]
def n_law_word : List Str := ["_law_pot_here", "_law_size", "_law_k"]
def p_law_word : List Str := ["_law_pot_here", "_law_size"]
/-- def 8: _law_sign(_law_pot_here); changed: [0] -/

def m_law_sign : List MS :=
  [.asg (.nm 1) (.con (.str [32, 33, 35, 36, 38, 39, 40, 41, 42, 43, 44, 45, 46, 47, 48, 49, 50, 51, 52, 53, 54, 55, 56, 57, 58, 59, 60, 61, 62, 63, 64, 65, 66, 67, 68, 69, 70, 71, 72, 73, 74, 75, 76, 77, 78, 79, 80, 81, 82, 83, 84, 85, 86, 87, 88, 89, 90, 91, 93, 94, 95, 96, 97, 98, 99, 100, 101, 102, 103, 104, 105, 106, 107, 108, 109, 110, 111, 112, 113, 114, 115, 116, 117, 118, 119, 120, 121, 122, 123, 124, 125, 126, 34, 92, 10])),
  .ret (some (.sub (.fzv 1) (.call "_law_draw" [.io 0, .bi .len [.var 1]] [] [])))]
def n_law_sign : List Str := ["_law_pot_here", "_law_signs"]
def p_law_sign : List Str := ["_law_pot_here"]
/-- def 9: _law_spoilt(_law_pot_here, _law_word_here); changed: [0] -/

def m_law_spoilt : List MS :=
  [.asg (.nm 2) (.call "_law_draw" [.io 0, .bin .add (.bi .len [.var 1]) (.con (.int 1))] [] []),
  .asg (.nm 3) (.call "_law_draw" [.io 0, .con (.int 3)] [] []),
  .ite (.cmp .eq (.var 3) (.con (.int 0)))
    [.ret (some (.bin .add (.bin .add (.slice (.var 1) none (some (.var 2))) (.call "_law_sign" [.io 0] [] [])) (.slice (.var 1) (some (.var 2)) none)))]
    [],
  .ite (.cmp .eq (.var 3) (.con (.int 1)))
    [.ret (some (.bin .add (.bin .add (.slice (.var 1) none (some (.var 2))) (.call "_law_sign" [.io 0] [] [])) (.slice (.var 1) (some (.bin .add (.var 2) (.con (.int 1)))) none)))]
    [],
  .ret (some (.bin .add (.slice (.var 1) none (some (.var 2))) (.slice (.var 1) (some (.bin .add (.var 2) (.con (.int 1)))) none)))]
def n_law_spoilt : List Str := ["_law_pot_here", "_law_word_here", "_law_at", "_law_way"]
def p_law_spoilt : List Str := ["_law_pot_here", "_law_word_here"]
/-- def 10: _law_odd(_law_pot_here, _law_word_here); changed: [0] -/

def m_law_odd : List MS :=
  [.asg (.nm 2) (.lst [.con .non, .con (.bl true), .con (.bl false), .con (.int 0), .con (.int 1), .neg (.con (.int 1)), .bin .pow (.con (.int 10)) (.con (.int 39)), .lst [], .tup [], .dic false [], .lst [.fzv 1], .tup [.fzv 1], .dic false [(.var 1, .con (.int 1))], .lst [.lst [.fzv 1]], .tup [.fzv 1, .fzv 1]]),
  .ret (some (.sub (.fzv 2) (.call "_law_draw" [.io 0, .bi .len [.var 2]] [] [])))]
def n_law_odd : List Str := ["_law_pot_here", "_law_word_here", "_law_some"]
def p_law_odd : List Str := ["_law_pot_here", "_law_word_here"]
/-- def 11: _law_drawn(_law_pot_here); changed: [0] -/

def m_law_drawn : List MS :=
  [.asg (.nm 1) (.call "_law_draw" [.io 0, .con (.int 4)] [] []),
  .asg (.nm 2) (.call "_law_word" [.io 0, .sub (.lst [.bin .add (.con (.int 1)) (.call "_law_draw" [.io 0, .con (.int 8)] [] []), .call "_law_draw" [.io 0, .con (.int 12)] [] []]) (.call "_law_draw" [.io 0, .con (.int 2)] [] [])] [] []),
  .ite (.cmp .eq (.var 1) (.con (.int 0)))
    [.ret (some (.call "_law_spoilt" [.io 0, .var 2] [] []))]
    [],
  .ite (.cmp .eq (.var 1) (.con (.int 1)))
    [.ret (some (.call "_law_odd" [.io 0, .fzv 2] [] []))]
    [],
  .ret (some (.mv 2))]
def n_law_drawn : List Str := ["_law_pot_here", "_law_way", "_law_word_here"]
def p_law_drawn : List Str := ["_law_pot_here"]
/-- def 12: _law_is_name(_law_some); changed: [] -/
def x_law_is_name_1 : ME := .lc (.var 1) (.nm 1) .str [.var 0] [.cmp .notin (.var 1) (.con (.str [97, 98, 99, 100, 101, 102, 103, 104, 105, 106, 107, 108, 109, 110, 111, 112, 113, 114, 115, 116, 117, 118, 119, 120, 121, 122]))]
theorem io_x_law_is_name_1 : ioOf x_law_is_name_1 = none := rfl
def m_law_is_name : List MS :=
  [.ite (.or (.not (.bi (.isi "str") [.var 0])) (.not (.chain .le .le (.con (.int 1)) (.bi .len [.var 0]) (.con (.int 8)))))
    [.ret (some (.con (.bl false)))]
    [],
  .ret (some (.cmp .eq (x_law_is_name_1) (.lst [])))]
def n_law_is_name : List Str := ["_law_some", "_law_sign_here"]
def p_law_is_name : List Str := ["_law_some"]
/-- def 13: _law_same(_law_found, _law_due); changed: [] -/

def m_law_same : List MS :=
  [.ret (some (.and (.bi (.isi "bool") [.var 0]) (.cmp .eq (.var 0) (.var 1))))]
def n_law_same : List Str := ["_law_found", "_law_due"]
def p_law_same : List Str := ["_law_found", "_law_due"]
/-- def 14: law(_law_script); changed: [] -/
def x_law_1 : ME := .lc (.call "_law_same" [.var 5, .var 4] [] []) (.nm 5) .seq [.lst [.call "is_name" [.var 2] [] [], .call "is_name" [] [0] [.var 2], .call "is_name" [.var 2] [] []]] []
def b_law_2 : List MS := [.asg (.nm 2) (.call "_law_drawn" [.call "_law_pot" [.var 0, .var 1] [] []] [] []),
  .asg (.nm 3) (.bi .repr [.var 2]),
  .asg (.nm 4) (.call "_law_is_name" [.var 2] [] []),
  .ite (.not (.bi .all [x_law_1]))
    [.ret (some (.con (.bl false)))]
    [],
  .ite (.cmp .ne (.bi .repr [.var 2]) (.var 3))
    [.ret (some (.con (.bl false)))]
    []]
def l_law_3 : MS := .for (.nm 1) .range1 [.bi .max2 [.con (.int 4), .bi .min2 [.con (.int 40), .bi .len [.var 0]]]] b_law_2
theorem io_x_law_1 : ioOf x_law_1 = none := rfl
def m_law : List MS :=
  [l_law_3,
  .ret (some (.and (.call "_law_same" [.call "is_name" [.con (.str [97])] [] [], .con (.bl true)] [] []) (.call "_law_same" [.call "is_name" [.con (.str [])] [] [], .con (.bl false)] [] [])))]
def n_law : List Str := ["_law_script", "_law_k", "_law_some", "_law_kept", "_law_due", "_law_found"]
def p_law : List Str := ["_law_script"]
def bis : List String := ["abs", "all", "bool", "divmod", "isinstance", "len", "max", "min", "range", "repr", "str"]
def gls : List String := ["LETTERS", "LONGEST"]
def gl : String → Option PV := fun g => if g = "LETTERS" then some (.str [97, 98, 99, 100, 101, 102, 103, 104, 105, 106, 107, 108, 109, 110, 111, 112, 113, 114, 115, 116, 117, 118, 119, 120, 121, 122]) else if g = "LONGEST" then some (.int (8)) else none
def cons : List He.Fa := [.str (fS "LETTERS") (tS [97, 98, 99, 100, 101, 102, 103, 104, 105, 106, 107, 108, 109, 110, 111, 112, 113, 114, 115, 116, 117, 118, 119, 120, 121, 122]), .int (fS "LONGEST") (8)]
def fuel : Nat := 0
def tab0 : List (String × FE) := []
def S0 : Sx := ⟨[], gls, bis, []⟩
def e_is_name : FE := ⟨p_is_name.length, [], [], bodyF (Ct gl fuel tab0) n_is_name.length m_is_name []⟩
theorem f_is_name : e_is_name.np = 1 ∧ e_is_name.dfl = [] ∧ e_is_name.ios = [] := ⟨rfl, rfl, rfl⟩
def tab1 : List (String × FE) := ("is_name", e_is_name) :: tab0
def sh_is_name : List (Nat × List Nat) := [(0, [0]), (1, [])]
def S1 : Sx := { S0 with fns := ("is_name", ⟨p_is_name, sh_is_name⟩) :: S0.fns }
def e_law_pot : FE := ⟨p_law_pot.length, [], [], bodyF (Ct gl fuel tab1) n_law_pot.length m_law_pot []⟩
theorem f_law_pot : e_law_pot.np = 2 ∧ e_law_pot.dfl = [] ∧ e_law_pot.ios = [] := ⟨rfl, rfl, rfl⟩
def tab2 : List (String × FE) := ("_law_pot", e_law_pot) :: tab1
def sh_law_pot : List (Nat × List Nat) := [(2, [])]
def S2 : Sx := { S1 with fns := ("_law_pot", ⟨p_law_pot, sh_law_pot⟩) :: S1.fns }
def e_law_draw : FE := ⟨p_law_draw.length, [], [0], bodyF (Ct gl fuel tab2) n_law_draw.length m_law_draw [0]⟩
theorem f_law_draw : e_law_draw.np = 2 ∧ e_law_draw.dfl = [] ∧ e_law_draw.ios = [0] := ⟨rfl, rfl, rfl⟩
def tab3 : List (String × FE) := ("_law_draw", e_law_draw) :: tab2
def sh_law_draw : List (Nat × List Nat) := [(2, [])]
def S3 : Sx := { S2 with fns := ("_law_draw", ⟨p_law_draw, sh_law_draw⟩) :: S2.fns }
def e_law_word : FE := ⟨p_law_word.length, [], [0], bodyF (Ct gl fuel tab3) n_law_word.length m_law_word [0]⟩
theorem f_law_word : e_law_word.np = 2 ∧ e_law_word.dfl = [] ∧ e_law_word.ios = [0] := ⟨rfl, rfl, rfl⟩
def tab4 : List (String × FE) := ("_law_word", e_law_word) :: tab3
def sh_law_word : List (Nat × List Nat) := [(2, [])]
def S4 : Sx := { S3 with fns := ("_law_word", ⟨p_law_word, sh_law_word⟩) :: S3.fns }
def e_law_sign : FE := ⟨p_law_sign.length, [], [0], bodyF (Ct gl fuel tab4) n_law_sign.length m_law_sign [0]⟩
theorem f_law_sign : e_law_sign.np = 1 ∧ e_law_sign.dfl = [] ∧ e_law_sign.ios = [0] := ⟨rfl, rfl, rfl⟩
def tab5 : List (String × FE) := ("_law_sign", e_law_sign) :: tab4
def sh_law_sign : List (Nat × List Nat) := [(1, [])]
def S5 : Sx := { S4 with fns := ("_law_sign", ⟨p_law_sign, sh_law_sign⟩) :: S4.fns }
def e_law_spoilt : FE := ⟨p_law_spoilt.length, [], [0], bodyF (Ct gl fuel tab5) n_law_spoilt.length m_law_spoilt [0]⟩
theorem f_law_spoilt : e_law_spoilt.np = 2 ∧ e_law_spoilt.dfl = [] ∧ e_law_spoilt.ios = [0] := ⟨rfl, rfl, rfl⟩
def tab6 : List (String × FE) := ("_law_spoilt", e_law_spoilt) :: tab5
def sh_law_spoilt : List (Nat × List Nat) := [(2, [])]
def S6 : Sx := { S5 with fns := ("_law_spoilt", ⟨p_law_spoilt, sh_law_spoilt⟩) :: S5.fns }
def e_law_odd : FE := ⟨p_law_odd.length, [], [0], bodyF (Ct gl fuel tab6) n_law_odd.length m_law_odd [0]⟩
theorem f_law_odd : e_law_odd.np = 2 ∧ e_law_odd.dfl = [] ∧ e_law_odd.ios = [0] := ⟨rfl, rfl, rfl⟩
def tab7 : List (String × FE) := ("_law_odd", e_law_odd) :: tab6
def sh_law_odd : List (Nat × List Nat) := [(2, [])]
def S7 : Sx := { S6 with fns := ("_law_odd", ⟨p_law_odd, sh_law_odd⟩) :: S6.fns }
def e_law_drawn : FE := ⟨p_law_drawn.length, [], [0], bodyF (Ct gl fuel tab7) n_law_drawn.length m_law_drawn [0]⟩
theorem f_law_drawn : e_law_drawn.np = 1 ∧ e_law_drawn.dfl = [] ∧ e_law_drawn.ios = [0] := ⟨rfl, rfl, rfl⟩
def tab8 : List (String × FE) := ("_law_drawn", e_law_drawn) :: tab7
def sh_law_drawn : List (Nat × List Nat) := [(1, [])]
def S8 : Sx := { S7 with fns := ("_law_drawn", ⟨p_law_drawn, sh_law_drawn⟩) :: S7.fns }
def e_law_is_name : FE := ⟨p_law_is_name.length, [], [], bodyF (Ct gl fuel tab8) n_law_is_name.length m_law_is_name []⟩
theorem f_law_is_name : e_law_is_name.np = 1 ∧ e_law_is_name.dfl = [] ∧ e_law_is_name.ios = [] := ⟨rfl, rfl, rfl⟩
def tab9 : List (String × FE) := ("_law_is_name", e_law_is_name) :: tab8
def sh_law_is_name : List (Nat × List Nat) := [(1, [])]
def S9 : Sx := { S8 with fns := ("_law_is_name", ⟨p_law_is_name, sh_law_is_name⟩) :: S8.fns }
def e_law_same : FE := ⟨p_law_same.length, [], [], bodyF (Ct gl fuel tab9) n_law_same.length m_law_same []⟩
theorem f_law_same : e_law_same.np = 2 ∧ e_law_same.dfl = [] ∧ e_law_same.ios = [] := ⟨rfl, rfl, rfl⟩
def tab10 : List (String × FE) := ("_law_same", e_law_same) :: tab9
def sh_law_same : List (Nat × List Nat) := [(2, [])]
def S10 : Sx := { S9 with fns := ("_law_same", ⟨p_law_same, sh_law_same⟩) :: S9.fns }
def e_law : FE := ⟨p_law.length, [], [], bodyF (Ct gl fuel tab10) n_law.length m_law []⟩
theorem f_law : e_law.np = 1 ∧ e_law.dfl = [] ∧ e_law.ios = [] := ⟨rfl, rfl, rfl⟩
def tab11 : List (String × FE) := ("law", e_law) :: tab10
def sh_law : List (Nat × List Nat) := []
def S11 : Sx := { S10 with fns := ("law", ⟨p_law, sh_law⟩) :: S10.fns }

end K11

set_option Elab.async false
set_option linter.all false
set_option maxRecDepth 100000
set_option maxHeartbeats 0
namespace K11
open PySem PySem.Spec PyProof.Rows L2 PT PTS
def potO (a b : Int) : OV := .lst [.fz (.int a), .fz (.int b)]
def lcB (C : Cxt) (elt : ME) (ifs : List ME) : M (Option OV) := M.bind (evTs C ifs) fun p => if p then M.bind ((ev C elt).1) lcOwn else M.pure none
theorem ev_lc {C : Cxt} {elt : ME} {tg : Tn} {k : ItK} {its ifs : List ME} {env env1 env2 env3 : PT.Env} {rs items : List RV} {ys : List OV} (h1 : evBs C its env = some (.ok rs, env1)) (h2 : itemsOf k rs = some items) (h3 : calmAt (lockE env1 (rootOf rs)) tg.slots = true) (h4 : items.length ≤ line) (h5 : lcLoop (lcStep tg (lcB C elt ifs)) items (lockE env1 (rootOf rs)) = some (.ok ys, env2))
    (h6 : unlockE [] env1 (rootOf rs) (restoreE (lockE env1 (rootOf rs)) env2 tg.slots) = some env3) : ev C (.lc elt tg k its ifs) = pr (fun e => (ev C (.lc elt tg k its ifs)).1 e) ∧ (ev C (.lc elt tg k its ifs)).1 env = some (.ok (.own (.lst ys)), env3) := by
  refine ⟨rfl, ?_⟩
  show M.bind (evBs C its) (fun rs => lcE k rs tg (lcB C elt ifs)) env = _
  rw [M.bind_ok h1]
  unfold lcE
  rw [h2]
  simp [h3, h4, h5, h6]
theorem lcLoop_inv {step : RV → M (Option OV)} {I : PT.Env → Prop} {R : OV → Prop} : ∀ {items : List RV}, (∀ x ∈ items, ∀ env, I env → ∃ y env', step x env = some (.ok (some y), env') ∧ I env' ∧ R y) → ∀ env, I env → ∃ ys env', lcLoop step items env = some (.ok ys, env') ∧ I env' ∧ (∀ y ∈ ys, R y) ∧ ys.length = items.length
  | [], _, env, hI => ⟨[], env, rfl, hI, fun y h => absurd h List.not_mem_nil, rfl⟩
  | x :: items, h, env, hI => by
    obtain ⟨y, env1, e1, h1, r1⟩ := h x List.mem_cons_self env hI
    obtain ⟨ys, env2, e2, h2, r2, l2⟩ := lcLoop_inv (fun z hz => h z (List.mem_cons_of_mem _ hz)) env1 h1
    refine ⟨y :: ys, env2, ?_, h2, fun z hz => ?_, by simp [l2]⟩
    · simp [lcLoop, M.bind, M.pure, e1, e2]
    · rcases List.mem_cons.mp hz with rfl | hz
      · exact r1
      · exact r2 z hz
theorem atIx_some {α : Type} (xs : List α) (d : Int) (h0 : 0 ≤ d) (h1 : d < xs.length) : ∃ c, xs[d.toNat]? = some c :=
  ⟨xs[d.toNat]'(by omega), List.getElem?_eq_getElem _⟩
theorem all_chars : ∀ (ys : List OV), (∀ y ∈ ys, ∃ c, c < 128 ∧ y = .fz (.str [c])) → ∃ ws : List Tx, allStr (views ys) = some ws ∧ (∀ w ∈ ws, w.length = 1) ∧ ws.length = ys.length ∧ ∀ w ∈ ws, ascT w = true
  | [], _ => ⟨[], rfl, fun _ h => absurd h List.not_mem_nil, rfl, fun _ h => absurd h List.not_mem_nil⟩
  | y :: ys, h => by
    obtain ⟨c, hc, rfl⟩ := h y List.mem_cons_self
    obtain ⟨ws, e, h1, h2, h3⟩ := all_chars ys fun z hz => h z (List.mem_cons_of_mem _ hz)
    refine ⟨[c] :: ws, by simp [views, OV.view, allStr, e], fun w hw => ?_, by simp [h2], fun w hw => ?_⟩
    · rcases List.mem_cons.mp hw with rfl | hw
      · rfl
      · exact h1 w hw
    · rcases List.mem_cons.mp hw with rfl | hw
      · simp [ascT, hc]
      · exact h3 w hw
theorem sum_ones : ∀ (ws : List Tx), (∀ w ∈ ws, w.length = 1) → (ws.map List.length).sum = ws.length
  | [], _ => rfl
  | w :: ws, h => by
    simp [h w List.mem_cons_self, sum_ones ws fun z hz => h z (List.mem_cons_of_mem _ hz)]
    omega
theorem join_len : ∀ (ws : List Tx), (joinTx [] ws).length = (ws.map List.length).sum
  | [] => rfl
  | [w] => by simp [joinTx]
  | w :: v :: ws => by
    simp only [joinTx, List.nil_append, List.length_append, List.map_cons, List.sum_cons]
    rw [join_len (v :: ws)]
    simp
theorem ascT_app {x y : Tx} (h1 : ascT x = true) (h2 : ascT y = true) : ascT (x ++ y) = true := by
  unfold ascT at *
  rw [List.all_append, h1, h2]
  rfl
theorem join_asc : ∀ (ws : List Tx), (∀ w ∈ ws, ascT w = true) → ascT (joinTx [] ws) = true
  | [], _ => rfl
  | [w], h => h w List.mem_cons_self
  | w :: v :: ws, h => by
    simp only [joinTx, List.nil_append]
    exact ascT_app (h w List.mem_cons_self) (join_asc (v :: ws) fun z hz => h z (List.mem_cons_of_mem _ hz))
theorem cut_len (x : Tx) (lo hi : Option Int) : (cut x lo hi).length ≤ x.length := by
  unfold cut
  simp only [List.length_take, List.length_drop]
  omega
theorem cut_asc {x : Tx} (lo hi : Option Int) (h : ascT x = true) : ascT (cut x lo hi) = true := by
  unfold ascT at *
  rw [List.all_eq_true] at *
  exact fun c hc => h c (List.mem_of_mem_drop (List.mem_of_mem_take hc))
theorem draw1 (a b m : Int) (ha : 0 ≤ a) (hm : 0 < m) (hm2 : m < 1073741824) : ∃ d a' b', e_law_draw.sem [.own (potO a b), .own (.fz (.int m))] = some (.ok (.fz (.int d)), [potO a' b']) ∧ 0 ≤ d ∧ d < m ∧ 0 ≤ a' := by
  unfold e_law_draw
  by_cases h : 0 < a
  · refine ⟨a % m, a / m, b, ?_, Int.emod_nonneg _ (by omega), Int.emod_lt_of_pos _ hm, Int.ediv_nonneg ha (by omega)⟩
    simp [bodyF, evSs, evS, SM.seq, M.st, ev, evE, evT, pr, truM, M.bind, rdVar, mvVar, fzVar, PT.Env.at, mkBor, RV.isBor, quiet, quiets, quieto, M.own, M.pure, own, M.lift, subRV, atIx, RV.t, RV.o, RV.sv, OV.view, views, opCmp, opBin, evBs, evHd, io_var, io_mv, io_fzv, io_con, io_glob, io_bin, io_neg, io_cmp, io_chain, io_and, io_or, io_not, io_ite, io_lst, io_tup, io_dic, io_sub, io_slice, io_bi, io_call, io_meth, io_mut, io_att, io_lc, io_fz, io_io, RV.borOf, List.any_cons, List.any_nil, evI, biR, biT, asgE, asgEs, putE, evP, plVar, updP, getP, setP, putR, nix, SM.nx, M.stuck, outsOf, List.replicate, lstR, tupR, allOwn, allFz, asgT, bindT, bindTs, callE, assemble, asmL, asmJ, asmAt, backIo, oneIo, RV.still, RV.frz, evTs, PT.line, Ct_fn, Ct_gl, Ct_rp, List.lookup, List.range', Except.map, m_law_draw, potO, n_law_draw, h, hm, hm2]
  · generalize hc : (b * 48271 + 20011).fmod 2147483647 = c
    have c1 : 0 ≤ c := by rw [← hc, Int.fmod_eq_emod_of_nonneg _ (by omega)]; exact Int.emod_nonneg _ (by omega)
    have c2 : c < 2147483647 := by rw [← hc, Int.fmod_eq_emod_of_nonneg _ (by omega)]; exact Int.emod_lt_of_pos _ (by omega)
    have k1 : mulOk b 48271 = true := by simp [mulOk]
    have k2 : mulOk c c = true := by simp [mulOk]; omega
    have hm0 : m ≠ 0 := by omega
    refine ⟨(((c * c).fmod 2147483629).fdiv 7).fmod m, a, c, ?_, ?_, ?_, ha⟩
    · simp [bodyF, evSs, evS, SM.seq, M.st, ev, evE, evT, pr, truM, M.bind, rdVar, mvVar, fzVar, PT.Env.at, mkBor, RV.isBor, quiet, quiets, quieto, M.own, M.pure, own, M.lift, subRV, atIx, RV.t, RV.o, RV.sv, OV.view, views, opCmp, opBin, evBs, evHd, io_var, io_mv, io_fzv, io_con, io_glob, io_bin, io_neg, io_cmp, io_chain, io_and, io_or, io_not, io_ite, io_lst, io_tup, io_dic, io_sub, io_slice, io_bi, io_call, io_meth, io_mut, io_att, io_lc, io_fz, io_io, RV.borOf, List.any_cons, List.any_nil, evI, biR, biT, asgE, asgEs, putE, evP, plVar, updP, getP, setP, putR, nix, SM.nx, M.stuck, outsOf, List.replicate, lstR, tupR, allOwn, allFz, asgT, bindT, bindTs, callE, assemble, asmL, asmJ, asmAt, backIo, oneIo, RV.still, RV.frz, evTs, PT.line, Ct_fn, Ct_gl, Ct_rp, List.lookup, List.range', Except.map, m_law_draw, potO, n_law_draw, h, hm, hm2, k1, k2, hc, hm0]
    · rw [Int.fmod_eq_emod_of_nonneg _ (by omega)]; exact Int.emod_nonneg _ (by omega)
    · rw [Int.fmod_eq_emod_of_nonneg _ (by omega)]; exact Int.emod_lt_of_pos _ (by omega)
theorem pot1 (ns : List Int) (k : Nat) : ∃ a b, e_law_pot.sem [.own (.fz (.lst (ns.map .int))), .own (.fz (.int k))] = some (.ok (potO a b), []) ∧ 0 ≤ a := by
  have k3 : mulOk 131 k = true := by simp [mulOk]
  unfold e_law_pot
  by_cases h : (k : Int) < ns.length
  · have hk : k < ns.length := by omega
    have hk2 : (ns.map PV.int)[k]? = some (.int ns[k]) := by simp [hk]
    refine ⟨if 0 < (if ns[k] < 0 then -ns[k] else ns[k]) - 10 ^ 18 then (if ns[k] < 0 then -ns[k] else ns[k]) - 10 ^ 18 else 0, (if ns[k] < 0 then -ns[k] else ns[k]).fmod 2147483587 + 131 * k + 7, ?_, by split <;> omega⟩
    simp [bodyF, evSs, evS, SM.seq, M.st, ev, evE, evT, pr, truM, M.bind, rdVar, mvVar, fzVar, PT.Env.at, mkBor, RV.isBor, quiet, quiets, quieto, M.own, M.pure, own, M.lift, subRV, atIx, RV.t, RV.o, RV.sv, OV.view, views, opCmp, opBin, evBs, evHd, io_var, io_mv, io_fzv, io_con, io_glob, io_bin, io_neg, io_cmp, io_chain, io_and, io_or, io_not, io_ite, io_lst, io_tup, io_dic, io_sub, io_slice, io_bi, io_call, io_meth, io_mut, io_att, io_lc, io_fz, io_io, RV.borOf, List.any_cons, List.any_nil, evI, biR, biT, asgE, asgEs, putE, evP, plVar, updP, getP, setP, putR, nix, SM.nx, M.stuck, outsOf, List.replicate, lstR, tupR, allOwn, allFz, asgT, bindT, bindTs, callE, assemble, asmL, asmJ, asmAt, backIo, oneIo, RV.still, RV.frz, evTs, PT.line, Ct_fn, Ct_gl, Ct_rp, List.lookup, List.range', Except.map, m_law_pot, potO, n_law_pot, h, k3, hk, mulOk]
  · have hk : ¬ k < ns.length := by omega
    refine ⟨0, (0 : Int).fmod 2147483587 + 131 * k + 7, ?_, by omega⟩
    simp [bodyF, evSs, evS, SM.seq, M.st, ev, evE, evT, pr, truM, M.bind, rdVar, mvVar, fzVar, PT.Env.at, mkBor, RV.isBor, quiet, quiets, quieto, M.own, M.pure, own, M.lift, subRV, atIx, RV.t, RV.o, RV.sv, OV.view, views, opCmp, opBin, evBs, evHd, io_var, io_mv, io_fzv, io_con, io_glob, io_bin, io_neg, io_cmp, io_chain, io_and, io_or, io_not, io_ite, io_lst, io_tup, io_dic, io_sub, io_slice, io_bi, io_call, io_meth, io_mut, io_att, io_lc, io_fz, io_io, RV.borOf, List.any_cons, List.any_nil, evI, biR, biT, asgE, asgEs, putE, evP, plVar, updP, getP, setP, putR, nix, SM.nx, M.stuck, outsOf, List.replicate, lstR, tupR, allOwn, allFz, asgT, bindT, bindTs, callE, assemble, asmL, asmJ, asmAt, backIo, oneIo, RV.still, RV.frz, evTs, PT.line, Ct_fn, Ct_gl, Ct_rp, List.lookup, List.range', Except.map, m_law_pot, potO, n_law_pot, h, k3, hk, mulOk]
theorem word1 (a b : Int) (n : Nat) (ha : 0 ≤ a) (hn : n ≤ 100) : ∃ w a' b', e_law_word.sem [.own (potO a b), .own (.fz (.int n))] = some (.ok (.fz (.str w)), [potO a' b']) ∧ 0 ≤ a' ∧ w.length ≤ 100 ∧ ascT w = true := by
  let I : PT.Env → Prop := fun env => ∃ a b s, 0 ≤ a ∧ s.calm = true ∧ env = [.own (potO a b), .own (.fz (.int n)), s]
  let R : OV → Prop := fun y => ∃ c, c < 128 ∧ y = .fz (.str [c])
  have step : ∀ x ∈ (List.range n).map (fun (k : Nat) => own (.int k)), ∀ env, I env → ∃ y env', lcStep (.nm 2) (lcB (Ct gl fuel tab3) (.sub (.con (.str [97, 98, 99, 100, 101, 102, 103, 104, 105, 106, 107, 108, 109, 110, 111, 112, 113, 114, 115, 116, 117, 118, 119, 120, 121, 122])) (.call "_law_draw" [.io 0, .con (.int 26)] [] [])) []) x env = some (.ok (some y), env') ∧ I env' ∧ R y := by
    rintro x hx env ⟨a, b, s, ha, hs, rfl⟩
    obtain ⟨k, hk, rfl⟩ := List.mem_map.mp hx
    obtain ⟨d, a', b', e, h1, h2, h3⟩ := draw1 a b 26 ha (by omega) (by omega)
    obtain ⟨c, hc⟩ := atIx_some [97, 98, 99, 100, 101, 102, 103, 104, 105, 106, 107, 108, 109, 110, 111, 112, 113, 114, 115, 116, 117, 118, 119, 120, 121, 122] d h1 (by simpa using h2)
    have c128 : c < 128 := (by decide : ∀ c ∈ ([97, 98, 99, 100, 101, 102, 103, 104, 105, 106, 107, 108, 109, 110, 111, 112, 113, 114, 115, 116, 117, 118, 119, 120, 121, 122] : Tx), c < 128) c (List.mem_of_getElem? hc)
    refine ⟨.fz (.str [c]), [.own (potO a' b'), .own (.fz (.int n)), .own (.fz (.int k))], ?_, ⟨a', b', _, h3, rfl, rfl⟩, c, c128, rfl⟩
    simp [bodyF, evSs, evS, SM.seq, M.st, ev, evE, evT, pr, truM, M.bind, rdVar, mvVar, fzVar, PT.Env.at, mkBor, RV.isBor, quiet, quiets, quieto, M.own, M.pure, own, M.lift, subRV, atIx, RV.t, RV.o, RV.sv, OV.view, views, opCmp, opBin, evBs, evHd, io_var, io_mv, io_fzv, io_con, io_glob, io_bin, io_neg, io_cmp, io_chain, io_and, io_or, io_not, io_ite, io_lst, io_tup, io_dic, io_sub, io_slice, io_bi, io_call, io_meth, io_mut, io_att, io_lc, io_fz, io_io, RV.borOf, List.any_cons, List.any_nil, evI, biR, biT, asgE, asgEs, putE, evP, plVar, updP, getP, setP, putR, nix, SM.nx, M.stuck, outsOf, List.replicate, lstR, tupR, allOwn, allFz, asgT, bindT, bindTs, callE, assemble, asmL, asmJ, asmAt, backIo, oneIo, RV.still, RV.frz, evTs, PT.line, Ct_fn, Ct_gl, Ct_rp, List.lookup, List.range', Except.map, lcStep, lcB, Tn.slots, wipeE, tab3, f_law_draw, e, lcOwn, calmAt, SV.calm, h1, hc]
  obtain ⟨ys, env', e, ⟨a', b', s, h1, hs, rfl⟩, h3, h4⟩ := lcLoop_inv step [.own (potO a b), .own (.fz (.int n)), .un] ⟨a, b, .un, ha, rfl, rfl⟩
  obtain ⟨ws, w1, w2, w3, w4⟩ := all_chars ys h3
  have hl : ws.length ≤ 100 := by rw [w3, h4]; simpa using hn
  have sm := sum_ones ws w2
  refine ⟨joinTx [] ws, a', b', ?_, h1, by rw [join_len, sm]; exact hl, join_asc ws w4⟩
  have hn2 : (n : Int) ≤ 16777216 := by omega
  have hw3 : ws.length ≤ 16777216 := by omega
  have lc : (ev (Ct gl fuel tab3) x_law_word_1).1 [.own (potO a b), .own (.fz (.int n)), .un] = some (.ok (.own (.lst ys)), [.own (potO a' b'), .own (.fz (.int n)), .un]) :=
    (ev_lc (rs := [own (.int n)]) (items := (List.range n).map fun (k : Nat) => own (.int k)) (env1 := [.own (potO a b), .own (.fz (.int n)), .un]) (by simp [bodyF, evSs, evS, SM.seq, M.st, ev, evE, evT, pr, truM, M.bind, rdVar, mvVar, fzVar, PT.Env.at, mkBor, RV.isBor, quiet, quiets, quieto, M.own, M.pure, own, M.lift, subRV, atIx, RV.t, RV.o, RV.sv, OV.view, views, opCmp, opBin, evBs, evHd, io_var, io_mv, io_fzv, io_con, io_glob, io_bin, io_neg, io_cmp, io_chain, io_and, io_or, io_not, io_ite, io_lst, io_tup, io_dic, io_sub, io_slice, io_bi, io_call, io_meth, io_mut, io_att, io_lc, io_fz, io_io, RV.borOf, List.any_cons, List.any_nil, evI, biR, biT, asgE, asgEs, putE, evP, plVar, updP, getP, setP, putR, nix, SM.nx, M.stuck, outsOf, List.replicate, lstR, tupR, allOwn, allFz, asgT, bindT, bindTs, callE, assemble, asmL, asmJ, asmAt, backIo, oneIo, RV.still, RV.frz, evTs, PT.line, Ct_fn, Ct_gl, Ct_rp, List.lookup, List.range', Except.map]) (by simp [itemsOf, own, PT.line, hn2] <;> omega) (by simp [rootOf, own, lockE, calmAt, Tn.slots, SV.calm, PT.Env.at]) (by simp [PT.line] <;> omega) e (by simp [rootOf, own, lockE, unlockE, mergeE, mergeS, restoreE, Tn.slots, PT.Env.at])).2
  unfold e_law_word
  simp [bodyF, evSs, evS, SM.seq, M.st, ev, evE, evT, pr, truM, M.bind, rdVar, mvVar, fzVar, PT.Env.at, mkBor, RV.isBor, quiet, quiets, quieto, M.own, M.pure, own, M.lift, subRV, atIx, RV.t, RV.o, RV.sv, OV.view, views, opCmp, opBin, evBs, evHd, io_var, io_mv, io_fzv, io_con, io_glob, io_bin, io_neg, io_cmp, io_chain, io_and, io_or, io_not, io_ite, io_lst, io_tup, io_dic, io_sub, io_slice, io_bi, io_call, io_meth, io_mut, io_att, io_lc, io_fz, io_io, RV.borOf, List.any_cons, List.any_nil, evI, biR, biT, asgE, asgEs, putE, evP, plVar, updP, getP, setP, putR, nix, SM.nx, M.stuck, outsOf, List.replicate, lstR, tupR, allOwn, allFz, asgT, bindT, bindTs, callE, assemble, asmL, asmJ, asmAt, backIo, oneIo, RV.still, RV.frz, evTs, PT.line, Ct_fn, Ct_gl, Ct_rp, List.lookup, List.range', Except.map, m_law_word, n_law_word, recvOk, bmT, io_x_law_word_1, lc, w1, sm, hw3]

def sg : Tx := [32, 33, 35, 36, 38, 39, 40, 41, 42, 43, 44, 45, 46, 47, 48, 49, 50, 51, 52, 53, 54, 55, 56, 57, 58, 59, 60, 61, 62, 63, 64, 65, 66, 67, 68, 69, 70, 71, 72, 73, 74, 75, 76, 77, 78, 79, 80, 81, 82, 83, 84, 85, 86, 87, 88, 89, 90, 91, 93, 94, 95, 96, 97, 98, 99, 100, 101, 102, 103, 104, 105, 106, 107, 108, 109, 110, 111, 112, 113, 114, 115, 116, 117, 118, 119, 120, 121, 122, 123, 124, 125, 126, 34, 92, 10]
theorem sg_len : sg.length = 95 := by decide
theorem m_sign : m_law_sign = [.asg (.nm 1) (.con (.str sg)), .ret (some (.sub (.fzv 1) (.call "_law_draw" [.io 0, .bi .len [.var 1]] [] [])))] := rfl
theorem sign1 (a b : Int) (ha : 0 ≤ a) : ∃ c a' b', e_law_sign.sem [.own (potO a b)] = some (.ok (.fz (.str [c])), [potO a' b']) ∧ 0 ≤ a' ∧ c < 128 := by
  obtain ⟨d, a', b', e, h1, h2, h3⟩ := draw1 a b 95 ha (by omega) (by omega)
  obtain ⟨c, hc⟩ := atIx_some sg d h1 (by rw [sg_len]; exact h2)
  have c128 : c < 128 := (by decide : ∀ c ∈ sg, c < 128) c (List.mem_of_getElem? hc)
  refine ⟨c, a', b', ?_, h3, c128⟩
  unfold e_law_sign
  simp [bodyF, evSs, evS, SM.seq, M.st, ev, evE, evT, pr, truM, M.bind, rdVar, mvVar, fzVar, PT.Env.at, mkBor, RV.isBor, quiet, quiets, quieto, M.own, M.pure, own, M.lift, subRV, atIx, RV.t, RV.o, RV.sv, OV.view, views, opCmp, opBin, evBs, evHd, io_var, io_mv, io_fzv, io_con, io_glob, io_bin, io_neg, io_cmp, io_chain, io_and, io_or, io_not, io_ite, io_lst, io_tup, io_dic, io_sub, io_slice, io_bi, io_call, io_meth, io_mut, io_att, io_lc, io_fz, io_io, RV.borOf, List.any_cons, List.any_nil, evI, biR, biT, asgE, asgEs, putE, evP, plVar, updP, getP, setP, putR, nix, SM.nx, M.stuck, outsOf, List.replicate, lstR, tupR, allOwn, allFz, asgT, bindT, bindTs, callE, assemble, asmL, asmJ, asmAt, backIo, oneIo, RV.still, RV.frz, evTs, PT.line, Ct_fn, Ct_gl, Ct_rp, List.lookup, List.range', Except.map, m_sign, n_law_sign, sg_len, tab4, tab3, f_law_draw, e, h1, hc]
theorem spoilt1 (a b : Int) (w : Tx) (ha : 0 ≤ a) (hw : w.length ≤ 100) (hasc : ascT w = true) : ∃ v a' b', e_law_spoilt.sem [.own (potO a b), .own (.fz (.str w))] = some (.ok (.fz (.str v)), [potO a' b']) ∧ 0 ≤ a' ∧ v.length ≤ 300 ∧ ascT v = true := by
  obtain ⟨d, a1, b1, e1, h1, h2, h3⟩ := draw1 a b ((w.length : Int) + 1) ha (by omega) (by omega)
  obtain ⟨d2, a2, b2, e2, g1, g2, g3⟩ := draw1 a1 b1 3 h3 (by omega) (by omega)
  obtain ⟨c, a3, b3, e3, k1, k2⟩ := sign1 a2 b2 g3
  have w0 : w.length ≤ 16777216 := by omega
  have l1 := cut_len w none (some d)
  have l2 := cut_len w (some d) none
  have l3 := cut_len w (some (d + 1)) none
  have s1 : (cut w none (some d)).length + 1 ≤ 16777216 := by omega
  have s2 : (cut w none (some d)).length + 1 + (cut w (some d) none).length ≤ 16777216 := by omega
  have s3 : (cut w none (some d)).length + 1 + (cut w (some (d + 1)) none).length ≤ 16777216 := by omega
  have s4 : (cut w none (some d)).length + (cut w (some (d + 1)) none).length ≤ 16777216 := by omega
  have ca : ascT [c] = true := by simp [ascT, k2]
  unfold e_law_spoilt
  by_cases q0 : d2 = 0
  · subst q0
    refine ⟨cut w none (some d) ++ [c] ++ cut w (some d) none, a3, b3, ?_, k1, by simp; omega, ascT_app (ascT_app (cut_asc _ _ hasc) ca) (cut_asc _ _ hasc)⟩
    simp [bodyF, evSs, evS, SM.seq, M.st, ev, evE, evT, pr, truM, M.bind, rdVar, mvVar, fzVar, PT.Env.at, mkBor, RV.isBor, quiet, quiets, quieto, M.own, M.pure, own, M.lift, subRV, atIx, RV.t, RV.o, RV.sv, OV.view, views, opCmp, opBin, evBs, evHd, io_var, io_mv, io_fzv, io_con, io_glob, io_bin, io_neg, io_cmp, io_chain, io_and, io_or, io_not, io_ite, io_lst, io_tup, io_dic, io_sub, io_slice, io_bi, io_call, io_meth, io_mut, io_att, io_lc, io_fz, io_io, RV.borOf, List.any_cons, List.any_nil, evI, biR, biT, asgE, asgEs, putE, evP, plVar, updP, getP, setP, putR, nix, SM.nx, M.stuck, outsOf, List.replicate, lstR, tupR, allOwn, allFz, asgT, bindT, bindTs, callE, assemble, asmL, asmJ, asmAt, backIo, oneIo, RV.still, RV.frz, evTs, PT.line, Ct_fn, Ct_gl, Ct_rp, List.lookup, List.range', Except.map, m_law_spoilt, n_law_spoilt, tab5, tab4, tab3, f_law_draw, f_law_sign, e1, e2, e3, eqOk, eqv, sliceT, w0, s1, s2]
  · by_cases q1 : d2 = 1
    · subst q1
      refine ⟨cut w none (some d) ++ [c] ++ cut w (some (d + 1)) none, a3, b3, ?_, k1, by simp; omega, ascT_app (ascT_app (cut_asc _ _ hasc) ca) (cut_asc _ _ hasc)⟩
      simp [bodyF, evSs, evS, SM.seq, M.st, ev, evE, evT, pr, truM, M.bind, rdVar, mvVar, fzVar, PT.Env.at, mkBor, RV.isBor, quiet, quiets, quieto, M.own, M.pure, own, M.lift, subRV, atIx, RV.t, RV.o, RV.sv, OV.view, views, opCmp, opBin, evBs, evHd, io_var, io_mv, io_fzv, io_con, io_glob, io_bin, io_neg, io_cmp, io_chain, io_and, io_or, io_not, io_ite, io_lst, io_tup, io_dic, io_sub, io_slice, io_bi, io_call, io_meth, io_mut, io_att, io_lc, io_fz, io_io, RV.borOf, List.any_cons, List.any_nil, evI, biR, biT, asgE, asgEs, putE, evP, plVar, updP, getP, setP, putR, nix, SM.nx, M.stuck, outsOf, List.replicate, lstR, tupR, allOwn, allFz, asgT, bindT, bindTs, callE, assemble, asmL, asmJ, asmAt, backIo, oneIo, RV.still, RV.frz, evTs, PT.line, Ct_fn, Ct_gl, Ct_rp, List.lookup, List.range', Except.map, m_law_spoilt, n_law_spoilt, tab5, tab4, tab3, f_law_draw, f_law_sign, e1, e2, e3, eqOk, eqv, sliceT, w0, s1, s3]
    · refine ⟨cut w none (some d) ++ cut w (some (d + 1)) none, a2, b2, ?_, g3, by simp; omega, ascT_app (cut_asc _ _ hasc) (cut_asc _ _ hasc)⟩
      simp [bodyF, evSs, evS, SM.seq, M.st, ev, evE, evT, pr, truM, M.bind, rdVar, mvVar, fzVar, PT.Env.at, mkBor, RV.isBor, quiet, quiets, quieto, M.own, M.pure, own, M.lift, subRV, atIx, RV.t, RV.o, RV.sv, OV.view, views, opCmp, opBin, evBs, evHd, io_var, io_mv, io_fzv, io_con, io_glob, io_bin, io_neg, io_cmp, io_chain, io_and, io_or, io_not, io_ite, io_lst, io_tup, io_dic, io_sub, io_slice, io_bi, io_call, io_meth, io_mut, io_att, io_lc, io_fz, io_io, RV.borOf, List.any_cons, List.any_nil, evI, biR, biT, asgE, asgEs, putE, evP, plVar, updP, getP, setP, putR, nix, SM.nx, M.stuck, outsOf, List.replicate, lstR, tupR, allOwn, allFz, asgT, bindT, bindTs, callE, assemble, asmL, asmJ, asmAt, backIo, oneIo, RV.still, RV.frz, evTs, PT.line, Ct_fn, Ct_gl, Ct_rp, List.lookup, List.range', Except.map, m_law_spoilt, n_law_spoilt, tab5, tab4, tab3, f_law_draw, f_law_sign, e1, e2, eqOk, eqv, sliceT, w0, s4, q0, q1]

end K11

set_option Elab.async false
set_option linter.all false
set_option maxRecDepth 100000
set_option maxHeartbeats 0
namespace K11
open PySem PySem.Spec PyProof.Rows L2 PT PTS
def oddL (w : Tx) : List PV := [.non, .bl true, .bl false, .int 0, .int 1, .int (-1), .int 1000000000000000000000000000000000000000, .lst [], .tup [], .dic [], .lst [.str w], .tup [.str w], .dic [(.one (.s w), .int 1)], .lst [.lst [.str w]], .tup [.str w, .str w]]
structure GoodT (t : PV) : Prop where
  rp : ∃ x, rpS t = some x
  len : ∀ x, t = .str x → x.length ≤ 1000
  ty : ∃ U, tyN t = some U
theorem good_str {w : Tx} (h : w.length ≤ 300) (ha : ascT w = true) : GoodT (.str w) :=
  ⟨rp_ok rfl rfl (by simp [pd, PyData.depth]) (by simpa [asc] using ha) (by simp [cost]; omega), fun x e => by cases e; omega, _, rfl⟩
theorem good_odd {w : Tx} (h : w.length ≤ 300) (ha : ascT w = true) : ∀ t ∈ oddL w, GoodT t := by
  have c0 : costI 0 ≤ 60 := by decide +kernel
  have c1 : costI 1 ≤ 60 := by decide +kernel
  have c2 : costI (-1) ≤ 60 := by decide +kernel
  have c3 : costI 1000000000000000000000000000000000000000 ≤ 60 := by decide +kernel
  intro t ht
  refine ⟨?_, ?_, ?_⟩
  · simp only [oddL, List.mem_cons, List.not_mem_nil, or_false] at ht
    rcases ht with rfl | rfl | rfl | rfl | rfl | rfl | rfl | rfl | rfl | rfl | rfl | rfl | rfl | rfl | rfl
    all_goals refine rp_ok (by rfl) ?_ (by simp [pd, pds, pdk, kyD, k1D, PyData.depth, PyData.depthAll, PyData.depthKv]) (by simp [asc, ascs, asck, ascK, asc1, ha]) (by simp [cost, costs, costk, costK, cost1] <;> omega)
    all_goals first | rfl | decide +kernel
  · rintro x rfl
    simp [oddL] at ht
  · simp only [oddL, List.mem_cons, List.not_mem_nil, or_false] at ht
    rcases ht with rfl | rfl | rfl | rfl | rfl | rfl | rfl | rfl | rfl | rfl | rfl | rfl | rfl | rfl | rfl
    all_goals exact ⟨_, rfl⟩
theorem odd1 (a b : Int) (w : Tx) (ha : 0 ≤ a) : ∃ t a' b', e_law_odd.sem [.own (potO a b), .own (.fz (.str w))] = some (.ok (.fz t), [potO a' b']) ∧ 0 ≤ a' ∧ t ∈ oddL w := by
  obtain ⟨d, a', b', e, h1, h2, h3⟩ := draw1 a b 15 ha (by omega) (by omega)
  obtain ⟨t, ht⟩ := atIx_some (oddL w) d h1 (by simpa [oddL] using h2)
  refine ⟨t, a', b', ?_, h3, List.mem_of_getElem? ht⟩
  simp only [oddL] at ht
  unfold e_law_odd
  simp [bodyF, evSs, evS, SM.seq, M.st, ev, evE, evT, pr, truM, M.bind, rdVar, mvVar, fzVar, PT.Env.at, mkBor, RV.isBor, quiet, quiets, quieto, M.own, M.pure, own, M.lift, subRV, atIx, RV.t, RV.o, RV.sv, OV.view, views, opCmp, opBin, evBs, evHd, io_var, io_mv, io_fzv, io_con, io_glob, io_bin, io_neg, io_cmp, io_chain, io_and, io_or, io_not, io_ite, io_lst, io_tup, io_dic, io_sub, io_slice, io_bi, io_call, io_meth, io_mut, io_att, io_lc, io_fz, io_io, RV.borOf, List.any_cons, List.any_nil, evI, biR, biT, asgE, asgEs, putE, evP, plVar, updP, getP, setP, putR, nix, SM.nx, M.stuck, outsOf, List.replicate, lstR, tupR, allOwn, allFz, asgT, bindT, bindTs, callE, assemble, asmL, asmJ, asmAt, backIo, oneIo, RV.still, RV.frz, evTs, PT.line, Ct_fn, Ct_gl, Ct_rp, List.lookup, List.range', Except.map, m_law_odd, n_law_odd, tab6, tab5, tab4, tab3, f_law_draw, e, h1, ht, evKs, dicOk, viewk, PV.k1]
theorem drawn1 (a b : Int) (ha : 0 ≤ a) : ∃ t a' b', e_law_drawn.sem [.own (potO a b)] = some (.ok (.fz t), [potO a' b']) ∧ GoodT t := by
  obtain ⟨d, a1, b1, e1, h1, h2, h3⟩ := draw1 a b 4 ha (by omega) (by omega)
  obtain ⟨d2, a2, b2, e2, i1, i2, i3⟩ := draw1 a1 b1 8 h3 (by omega) (by omega)
  obtain ⟨d3, a3, b3, e3, j1, j2, j3⟩ := draw1 a2 b2 12 i3 (by omega) (by omega)
  obtain ⟨d4, a4, b4, e4, k1, k2, k3⟩ := draw1 a3 b3 2 j3 (by omega) (by omega)
  have hn : ∃ n : Nat, n ≤ 100 ∧ ([OV.fz (.int (1 + d2)), OV.fz (.int d3)] : List OV)[d4.toNat]? = some (.fz (.int n)) := by
    by_cases q : d4 = 0
    · subst q
      exact ⟨(1 + d2).toNat, by omega, by simp; omega⟩
    · have : d4 = 1 := by omega
      subst this
      exact ⟨d3.toNat, by omega, by simp; omega⟩
  obtain ⟨n, hn1, hn2⟩ := hn
  obtain ⟨w, a5, b5, e5, l1, l2, l3⟩ := word1 a4 b4 n k3 hn1
  obtain ⟨v, a6, b6, e6, m1, m2, m3⟩ := spoilt1 a5 b5 w l1 l2 l3
  obtain ⟨t, a7, b7, e7, n1, n2⟩ := odd1 a5 b5 w l1
  unfold e_law_drawn
  by_cases q0 : d = 0
  · subst q0
    refine ⟨.str v, a6, b6, ?_, good_str m2 m3⟩
    simp [bodyF, evSs, evS, SM.seq, M.st, ev, evE, evT, pr, truM, M.bind, rdVar, mvVar, fzVar, PT.Env.at, mkBor, RV.isBor, quiet, quiets, quieto, M.own, M.pure, own, M.lift, subRV, atIx, RV.t, RV.o, RV.sv, OV.view, views, opCmp, opBin, evBs, evHd, io_var, io_mv, io_fzv, io_con, io_glob, io_bin, io_neg, io_cmp, io_chain, io_and, io_or, io_not, io_ite, io_lst, io_tup, io_dic, io_sub, io_slice, io_bi, io_call, io_meth, io_mut, io_att, io_lc, io_fz, io_io, RV.borOf, List.any_cons, List.any_nil, evI, biR, biT, asgE, asgEs, putE, evP, plVar, updP, getP, setP, putR, nix, SM.nx, M.stuck, outsOf, List.replicate, lstR, tupR, allOwn, allFz, asgT, bindT, bindTs, callE, assemble, asmL, asmJ, asmAt, backIo, oneIo, RV.still, RV.frz, evTs, PT.line, Ct_fn, Ct_gl, Ct_rp, List.lookup, List.range', Except.map, m_law_drawn, n_law_drawn, tab7, tab6, tab5, tab4, tab3, f_law_draw, f_law_word, f_law_spoilt, f_law_odd, e1, e2, e3, e4, e5, e6, k1, hn2, eqOk, eqv]
  · by_cases q1 : d = 1
    · subst q1
      refine ⟨t, a7, b7, ?_, good_odd (by omega) l3 t n2⟩
      simp [bodyF, evSs, evS, SM.seq, M.st, ev, evE, evT, pr, truM, M.bind, rdVar, mvVar, fzVar, PT.Env.at, mkBor, RV.isBor, quiet, quiets, quieto, M.own, M.pure, own, M.lift, subRV, atIx, RV.t, RV.o, RV.sv, OV.view, views, opCmp, opBin, evBs, evHd, io_var, io_mv, io_fzv, io_con, io_glob, io_bin, io_neg, io_cmp, io_chain, io_and, io_or, io_not, io_ite, io_lst, io_tup, io_dic, io_sub, io_slice, io_bi, io_call, io_meth, io_mut, io_att, io_lc, io_fz, io_io, RV.borOf, List.any_cons, List.any_nil, evI, biR, biT, asgE, asgEs, putE, evP, plVar, updP, getP, setP, putR, nix, SM.nx, M.stuck, outsOf, List.replicate, lstR, tupR, allOwn, allFz, asgT, bindT, bindTs, callE, assemble, asmL, asmJ, asmAt, backIo, oneIo, RV.still, RV.frz, evTs, PT.line, Ct_fn, Ct_gl, Ct_rp, List.lookup, List.range', Except.map, m_law_drawn, n_law_drawn, tab7, tab6, tab5, tab4, tab3, f_law_draw, f_law_word, f_law_spoilt, f_law_odd, e1, e2, e3, e4, e5, e7, k1, hn2, eqOk, eqv]
    · refine ⟨.str w, a5, b5, ?_, good_str (by omega) l3⟩
      simp [bodyF, evSs, evS, SM.seq, M.st, ev, evE, evT, pr, truM, M.bind, rdVar, mvVar, fzVar, PT.Env.at, mkBor, RV.isBor, quiet, quiets, quieto, M.own, M.pure, own, M.lift, subRV, atIx, RV.t, RV.o, RV.sv, OV.view, views, opCmp, opBin, evBs, evHd, io_var, io_mv, io_fzv, io_con, io_glob, io_bin, io_neg, io_cmp, io_chain, io_and, io_or, io_not, io_ite, io_lst, io_tup, io_dic, io_sub, io_slice, io_bi, io_call, io_meth, io_mut, io_att, io_lc, io_fz, io_io, RV.borOf, List.any_cons, List.any_nil, evI, biR, biT, asgE, asgEs, putE, evP, plVar, updP, getP, setP, putR, nix, SM.nx, M.stuck, outsOf, List.replicate, lstR, tupR, allOwn, allFz, asgT, bindT, bindTs, callE, assemble, asmL, asmJ, asmAt, backIo, oneIo, RV.still, RV.frz, evTs, PT.line, Ct_fn, Ct_gl, Ct_rp, List.lookup, List.range', Except.map, m_law_drawn, n_law_drawn, tab7, tab6, tab5, tab4, tab3, f_law_draw, f_law_word, f_law_spoilt, f_law_odd, e1, e2, e3, e4, e5, k1, hn2, eqOk, eqv, q0, q1]

end K11

set_option Elab.async false
set_option linter.all false
set_option maxRecDepth 100000
set_option maxHeartbeats 0
namespace K11
open PySem PySem.Spec PyProof.Rows L2 PT PTS
def LT : Tx := [97, 98, 99, 100, 101, 102, 103, 104, 105, 106, 107, 108, 109, 110, 111, 112, 113, 114, 115, 116, 117, 118, 119, 120, 121, 122]
def isN : PV → Bool
  | .str x => decide (1 ≤ x.length) && decide (x.length ≤ 8) && x.all fun c => decide (c ∈ LT)
  | _ => false
theorem lcLoop_map {α : Type} {step : RV → M (Option OV)} {I : PT.Env → Prop} {g : α → RV} {h : α → Option OV} : ∀ {xs : List α}, (∀ x ∈ xs, ∀ env, I env → ∃ env', step (g x) env = some (.ok (h x), env') ∧ I env') → ∀ env, I env → ∃ env', lcLoop step (xs.map g) env = some (.ok (xs.filterMap h), env') ∧ I env'
  | [], _, env, hI => ⟨env, rfl, hI⟩
  | x :: xs, hs, env, hI => by
    obtain ⟨env1, e1, h1⟩ := hs x List.mem_cons_self env hI
    obtain ⟨env2, e2, h2⟩ := lcLoop_map (h := h) (fun z hz => hs z (List.mem_cons_of_mem _ hz)) env1 h1
    refine ⟨env2, ?_, h2⟩
    cases hx : h x <;> simp [lcLoop, M.bind, M.pure, e1, e2, hx]
theorem gl_let : gl "LETTERS" = some (.str LT) := rfl
theorem gl_lon : gl "LONGEST" = some (.int 8) := rfl
theorem all_tru (f : Nat → Bool) : ∀ x : Tx, allTru (views (x.filterMap fun c => some (OV.fz (.bl (f c))))) = some (x.all f)
  | [] => rfl
  | c :: x => by
    have := all_tru f x
    simp only [List.filterMap_cons, views, OV.view, allTru, this, List.all_cons]
    rfl
theorem all_tru' (f : Nat → Bool) : ∀ x : Tx, allTru (views (x.map fun c => OV.fz (.bl (f c)))) = some (x.all f)
  | [] => rfl
  | c :: x => by
    have := all_tru' f x
    simp only [List.map_cons, views, OV.view, allTru, this, List.all_cons]
    rfl
theorem isi_str {t : PV} {U : String} (h : tyN t = some U) : isiT "str" t = some (match t with | .str _ => true | _ => false) := by
  cases t <;> first | rfl | cases h
theorem name1 {t : PV} (h : GoodT t) : e_is_name.sem [.own (.fz t)] = some (.ok (.fz (.bl (isN t))), []) := by
  obtain ⟨U, hU⟩ := h.ty
  have hi := isi_str hU
  unfold e_is_name
  cases t with
  | str x =>
    have hx := h.len x rfl
    have l1 : x.length ≤ 16777216 := by omega
    by_cases h1 : 1 ≤ x.length
    · by_cases h8 : x.length ≤ 8
      · have h8' : (x.length : Int) ≤ 8 := by omega
        have h1' : (1 : Int) ≤ x.length := by omega
        let I : PT.Env → Prop := fun env => ∃ s, s.calm = true ∧ env = [.own (.fz (.str x)), s]
        obtain ⟨env', e, ⟨s, hs, rfl⟩⟩ := lcLoop_map (I := I) (xs := x) (g := fun c => own (.str [c])) (h := fun c => some (OV.fz (.bl (decide (c ∈ LT))))) (step := lcStep (.nm 1) (lcB (Ct gl fuel tab0) (.cmp .isin (.var 1) (.glob "LETTERS")) [])) (fun c hc env => by
          rintro ⟨s, hs, rfl⟩
          refine ⟨[.own (.fz (.str x)), .own (.fz (.str [c]))], ?_, _, rfl, rfl⟩
          simp [bodyF, evSs, evS, SM.seq, M.st, ev, evE, evT, pr, truM, M.bind, rdVar, mvVar, fzVar, PT.Env.at, mkBor, RV.isBor, quiet, quiets, quieto, M.own, M.pure, own, M.lift, subRV, atIx, RV.t, RV.o, RV.sv, OV.view, views, opCmp, opBin, evBs, evHd, io_var, io_mv, io_fzv, io_con, io_glob, io_bin, io_neg, io_cmp, io_chain, io_and, io_or, io_not, io_ite, io_lst, io_tup, io_dic, io_sub, io_slice, io_bi, io_call, io_meth, io_mut, io_att, io_lc, io_fz, io_io, RV.borOf, List.any_cons, List.any_nil, evI, biR, biT, asgE, asgEs, putE, evP, plVar, updP, getP, setP, putR, nix, SM.nx, M.stuck, outsOf, List.replicate, lstR, tupR, allOwn, allFz, asgT, bindT, bindTs, callE, assemble, asmL, asmJ, asmAt, backIo, oneIo, RV.still, RV.frz, evTs, PT.line, Ct_fn, Ct_gl, Ct_rp, List.lookup, List.range', Except.map, lcStep, lcB, Tn.slots, wipeE, lcOwn, calmAt, SV.calm, gl_let, isInTx]) [.own (.fz (.str x)), .un] ⟨.un, rfl, rfl⟩
        have lc : (ev (Ct gl fuel tab0) x_is_name_1).1 [.own (.fz (.str x)), .un] = some (.ok (.own (.lst (x.filterMap fun c => some (OV.fz (.bl (decide (c ∈ LT))))))), [.own (.fz (.str x)), .un]) :=
          (ev_lc (rs := [own (.str x)]) (items := x.map fun c => own (.str [c])) (env1 := [.own (.fz (.str x)), .un]) (by simp [bodyF, evSs, evS, SM.seq, M.st, ev, evE, evT, pr, truM, M.bind, rdVar, mvVar, fzVar, PT.Env.at, mkBor, RV.isBor, quiet, quiets, quieto, M.own, M.pure, own, M.lift, subRV, atIx, RV.t, RV.o, RV.sv, OV.view, views, opCmp, opBin, evBs, evHd, io_var, io_mv, io_fzv, io_con, io_glob, io_bin, io_neg, io_cmp, io_chain, io_and, io_or, io_not, io_ite, io_lst, io_tup, io_dic, io_sub, io_slice, io_bi, io_call, io_meth, io_mut, io_att, io_lc, io_fz, io_io, RV.borOf, List.any_cons, List.any_nil, evI, biR, biT, asgE, asgEs, putE, evP, plVar, updP, getP, setP, putR, nix, SM.nx, M.stuck, outsOf, List.replicate, lstR, tupR, allOwn, allFz, asgT, bindT, bindTs, callE, assemble, asmL, asmJ, asmAt, backIo, oneIo, RV.still, RV.frz, evTs, PT.line, Ct_fn, Ct_gl, Ct_rp, List.lookup, List.range', Except.map]) (by simp [itemsOf, own, PT.line, l1]) (by simp [rootOf, own, lockE, calmAt, Tn.slots, SV.calm, PT.Env.at]) (by simp [PT.line, l1]) e (by simp [rootOf, own, lockE, unlockE, mergeE, mergeS, restoreE, Tn.slots, PT.Env.at])).2
        have at_ := all_tru (fun c => decide (c ∈ LT)) x
        simp [bodyF, evSs, evS, SM.seq, M.st, ev, evE, evT, pr, truM, M.bind, rdVar, mvVar, fzVar, PT.Env.at, mkBor, RV.isBor, quiet, quiets, quieto, M.own, M.pure, own, M.lift, subRV, atIx, RV.t, RV.o, RV.sv, OV.view, views, opCmp, opBin, evBs, evHd, io_var, io_mv, io_fzv, io_con, io_glob, io_bin, io_neg, io_cmp, io_chain, io_and, io_or, io_not, io_ite, io_lst, io_tup, io_dic, io_sub, io_slice, io_bi, io_call, io_meth, io_mut, io_att, io_lc, io_fz, io_io, RV.borOf, List.any_cons, List.any_nil, evI, biR, biT, asgE, asgEs, putE, evP, plVar, updP, getP, setP, putR, nix, SM.nx, M.stuck, outsOf, List.replicate, lstR, tupR, allOwn, allFz, asgT, bindT, bindTs, callE, assemble, asmL, asmJ, asmAt, backIo, oneIo, RV.still, RV.frz, evTs, PT.line, Ct_fn, Ct_gl, Ct_rp, List.lookup, List.range', Except.map, m_is_name, n_is_name, hi, gl_lon, l1, h1', h8', io_x_is_name_1, lc, all_tru', isN, h1, h8]
      · have h8' : ¬ (x.length : Int) ≤ 8 := by omega
        have h1' : (1 : Int) ≤ x.length := by omega
        simp [bodyF, evSs, evS, SM.seq, M.st, ev, evE, evT, pr, truM, M.bind, rdVar, mvVar, fzVar, PT.Env.at, mkBor, RV.isBor, quiet, quiets, quieto, M.own, M.pure, own, M.lift, subRV, atIx, RV.t, RV.o, RV.sv, OV.view, views, opCmp, opBin, evBs, evHd, io_var, io_mv, io_fzv, io_con, io_glob, io_bin, io_neg, io_cmp, io_chain, io_and, io_or, io_not, io_ite, io_lst, io_tup, io_dic, io_sub, io_slice, io_bi, io_call, io_meth, io_mut, io_att, io_lc, io_fz, io_io, RV.borOf, List.any_cons, List.any_nil, evI, biR, biT, asgE, asgEs, putE, evP, plVar, updP, getP, setP, putR, nix, SM.nx, M.stuck, outsOf, List.replicate, lstR, tupR, allOwn, allFz, asgT, bindT, bindTs, callE, assemble, asmL, asmJ, asmAt, backIo, oneIo, RV.still, RV.frz, evTs, PT.line, Ct_fn, Ct_gl, Ct_rp, List.lookup, List.range', Except.map, m_is_name, n_is_name, hi, gl_lon, l1, h1', h8', isN, h8]
    · have h1' : ¬ (1 : Int) ≤ x.length := by omega
      simp [bodyF, evSs, evS, SM.seq, M.st, ev, evE, evT, pr, truM, M.bind, rdVar, mvVar, fzVar, PT.Env.at, mkBor, RV.isBor, quiet, quiets, quieto, M.own, M.pure, own, M.lift, subRV, atIx, RV.t, RV.o, RV.sv, OV.view, views, opCmp, opBin, evBs, evHd, io_var, io_mv, io_fzv, io_con, io_glob, io_bin, io_neg, io_cmp, io_chain, io_and, io_or, io_not, io_ite, io_lst, io_tup, io_dic, io_sub, io_slice, io_bi, io_call, io_meth, io_mut, io_att, io_lc, io_fz, io_io, RV.borOf, List.any_cons, List.any_nil, evI, biR, biT, asgE, asgEs, putE, evP, plVar, updP, getP, setP, putR, nix, SM.nx, M.stuck, outsOf, List.replicate, lstR, tupR, allOwn, allFz, asgT, bindT, bindTs, callE, assemble, asmL, asmJ, asmAt, backIo, oneIo, RV.still, RV.frz, evTs, PT.line, Ct_fn, Ct_gl, Ct_rp, List.lookup, List.range', Except.map, m_is_name, n_is_name, hi, gl_lon, l1, h1', isN, h1]
  | _ => simp [bodyF, evSs, evS, SM.seq, M.st, ev, evE, evT, pr, truM, M.bind, rdVar, mvVar, fzVar, PT.Env.at, mkBor, RV.isBor, quiet, quiets, quieto, M.own, M.pure, own, M.lift, subRV, atIx, RV.t, RV.o, RV.sv, OV.view, views, opCmp, opBin, evBs, evHd, io_var, io_mv, io_fzv, io_con, io_glob, io_bin, io_neg, io_cmp, io_chain, io_and, io_or, io_not, io_ite, io_lst, io_tup, io_dic, io_sub, io_slice, io_bi, io_call, io_meth, io_mut, io_att, io_lc, io_fz, io_io, RV.borOf, List.any_cons, List.any_nil, evI, biR, biT, asgE, asgEs, putE, evP, plVar, updP, getP, setP, putR, nix, SM.nx, M.stuck, outsOf, List.replicate, lstR, tupR, allOwn, allFz, asgT, bindT, bindTs, callE, assemble, asmL, asmJ, asmAt, backIo, oneIo, RV.still, RV.frz, evTs, PT.line, Ct_fn, Ct_gl, Ct_rp, List.lookup, List.range', Except.map, m_is_name, n_is_name, hi, isN]

end K11

set_option Elab.async false
set_option linter.all false
set_option maxRecDepth 100000
set_option maxHeartbeats 0
namespace K11
open PySem PySem.Spec PyProof.Rows L2 PT PTS
theorem nonempty_iff (x : Tx) : (views (x.filterMap fun c => if c ∈ LT then none else some (OV.fz (.str [c])))).isEmpty = x.all fun c => decide (c ∈ LT) := by
  induction x with
  | nil => rfl
  | cons c x ih =>
    by_cases h : c ∈ LT
    · simp [h, ih]
    · simp [h, views]
theorem eqv_nil (xs : List PV) : eqv (.lst xs) (.lst []) = xs.isEmpty := by
  cases xs <;> simp [eqv, eqvs]
theorem eqOk_strs : ∀ (x : Tx), eqOk 60 (.lst (views (x.filterMap fun c => if c ∈ LT then none else some (OV.fz (.str [c]))))) = true := by
  intro x
  simp only [eqOk]
  induction x with
  | nil => simp [views, eqOks]
  | cons c x ih =>
    by_cases h : c ∈ LT
    · simp [h, ih]
    · simp [h, views, eqOks, OV.view, eqOk, ih]
theorem name2 {t : PV} (h : GoodT t) : e_law_is_name.sem [.own (.fz t)] = some (.ok (.fz (.bl (isN t))), []) := by
  obtain ⟨U, hU⟩ := h.ty
  have hi := isi_str hU
  unfold e_law_is_name
  cases t with
  | str x =>
    have hx := h.len x rfl
    have l1 : x.length ≤ 16777216 := by omega
    by_cases h1 : 1 ≤ x.length
    · by_cases h8 : x.length ≤ 8
      · have h8' : (x.length : Int) ≤ 8 := by omega
        have h1' : (1 : Int) ≤ x.length := by omega
        let I : PT.Env → Prop := fun env => ∃ s, s.calm = true ∧ env = [.own (.fz (.str x)), s]
        obtain ⟨env', e, ⟨s, hs, rfl⟩⟩ := lcLoop_map (I := I) (xs := x) (g := fun c => own (.str [c])) (h := fun c => if c ∈ LT then none else some (OV.fz (.str [c]))) (step := lcStep (.nm 1) (lcB (Ct gl fuel tab8) (.var 1) [.cmp .notin (.var 1) (.con (.str LT))])) (fun c hc env => by
          rintro ⟨s, hs, rfl⟩
          refine ⟨[.own (.fz (.str x)), .own (.fz (.str [c]))], ?_, _, rfl, rfl⟩
          by_cases hcl : c ∈ LT
          · simp [bodyF, evSs, evS, SM.seq, M.st, ev, evE, evT, pr, truM, M.bind, rdVar, mvVar, fzVar, PT.Env.at, mkBor, RV.isBor, quiet, quiets, quieto, M.own, M.pure, own, M.lift, subRV, atIx, RV.t, RV.o, RV.sv, OV.view, views, opCmp, opBin, evBs, evHd, io_var, io_mv, io_fzv, io_con, io_glob, io_bin, io_neg, io_cmp, io_chain, io_and, io_or, io_not, io_ite, io_lst, io_tup, io_dic, io_sub, io_slice, io_bi, io_call, io_meth, io_mut, io_att, io_lc, io_fz, io_io, RV.borOf, List.any_cons, List.any_nil, evI, biR, biT, asgE, asgEs, putE, evP, plVar, updP, getP, setP, putR, nix, SM.nx, M.stuck, outsOf, List.replicate, lstR, tupR, allOwn, allFz, asgT, bindT, bindTs, callE, assemble, asmL, asmJ, asmAt, backIo, oneIo, RV.still, RV.frz, evTs, PT.line, Ct_fn, Ct_gl, Ct_rp, List.lookup, List.range', Except.map, lcStep, lcB, Tn.slots, wipeE, lcOwn, calmAt, SV.calm, isInTx, hcl]
          · simp [bodyF, evSs, evS, SM.seq, M.st, ev, evE, evT, pr, truM, M.bind, rdVar, mvVar, fzVar, PT.Env.at, mkBor, RV.isBor, quiet, quiets, quieto, M.own, M.pure, own, M.lift, subRV, atIx, RV.t, RV.o, RV.sv, OV.view, views, opCmp, opBin, evBs, evHd, io_var, io_mv, io_fzv, io_con, io_glob, io_bin, io_neg, io_cmp, io_chain, io_and, io_or, io_not, io_ite, io_lst, io_tup, io_dic, io_sub, io_slice, io_bi, io_call, io_meth, io_mut, io_att, io_lc, io_fz, io_io, RV.borOf, List.any_cons, List.any_nil, evI, biR, biT, asgE, asgEs, putE, evP, plVar, updP, getP, setP, putR, nix, SM.nx, M.stuck, outsOf, List.replicate, lstR, tupR, allOwn, allFz, asgT, bindT, bindTs, callE, assemble, asmL, asmJ, asmAt, backIo, oneIo, RV.still, RV.frz, evTs, PT.line, Ct_fn, Ct_gl, Ct_rp, List.lookup, List.range', Except.map, lcStep, lcB, Tn.slots, wipeE, lcOwn, calmAt, SV.calm, isInTx, hcl]) [.own (.fz (.str x)), .un] ⟨.un, rfl, rfl⟩
        have lc : (ev (Ct gl fuel tab8) x_law_is_name_1).1 [.own (.fz (.str x)), .un] = some (.ok (.own (.lst (x.filterMap fun c => if c ∈ LT then none else some (OV.fz (.str [c]))))), [.own (.fz (.str x)), .un]) :=
          (ev_lc (rs := [own (.str x)]) (items := x.map fun c => own (.str [c])) (env1 := [.own (.fz (.str x)), .un]) (by simp [bodyF, evSs, evS, SM.seq, M.st, ev, evE, evT, pr, truM, M.bind, rdVar, mvVar, fzVar, PT.Env.at, mkBor, RV.isBor, quiet, quiets, quieto, M.own, M.pure, own, M.lift, subRV, atIx, RV.t, RV.o, RV.sv, OV.view, views, opCmp, opBin, evBs, evHd, io_var, io_mv, io_fzv, io_con, io_glob, io_bin, io_neg, io_cmp, io_chain, io_and, io_or, io_not, io_ite, io_lst, io_tup, io_dic, io_sub, io_slice, io_bi, io_call, io_meth, io_mut, io_att, io_lc, io_fz, io_io, RV.borOf, List.any_cons, List.any_nil, evI, biR, biT, asgE, asgEs, putE, evP, plVar, updP, getP, setP, putR, nix, SM.nx, M.stuck, outsOf, List.replicate, lstR, tupR, allOwn, allFz, asgT, bindT, bindTs, callE, assemble, asmL, asmJ, asmAt, backIo, oneIo, RV.still, RV.frz, evTs, PT.line, Ct_fn, Ct_gl, Ct_rp, List.lookup, List.range', Except.map]) (by simp [itemsOf, own, PT.line, l1]) (by simp [rootOf, own, lockE, calmAt, Tn.slots, SV.calm, PT.Env.at]) (by simp [PT.line, l1]) e (by simp [rootOf, own, lockE, unlockE, mergeE, mergeS, restoreE, Tn.slots, PT.Env.at])).2
        have a1 := nonempty_iff x
        have a2 := eqOk_strs x
        have a3 := eqv_nil (views (x.filterMap fun c => if c ∈ LT then none else some (OV.fz (.str [c]))))
        rw [a1] at a3
        have a4 : eqOk 60 (.lst []) = true := by simp [eqOk, eqOks]
        simp [bodyF, evSs, evS, SM.seq, M.st, ev, evE, evT, pr, truM, M.bind, rdVar, mvVar, fzVar, PT.Env.at, mkBor, RV.isBor, quiet, quiets, quieto, M.own, M.pure, own, M.lift, subRV, atIx, RV.t, RV.o, RV.sv, OV.view, views, opCmp, opBin, evBs, evHd, io_var, io_mv, io_fzv, io_con, io_glob, io_bin, io_neg, io_cmp, io_chain, io_and, io_or, io_not, io_ite, io_lst, io_tup, io_dic, io_sub, io_slice, io_bi, io_call, io_meth, io_mut, io_att, io_lc, io_fz, io_io, RV.borOf, List.any_cons, List.any_nil, evI, biR, biT, asgE, asgEs, putE, evP, plVar, updP, getP, setP, putR, nix, SM.nx, M.stuck, outsOf, List.replicate, lstR, tupR, allOwn, allFz, asgT, bindT, bindTs, callE, assemble, asmL, asmJ, asmAt, backIo, oneIo, RV.still, RV.frz, evTs, PT.line, Ct_fn, Ct_gl, Ct_rp, List.lookup, List.range', Except.map, m_law_is_name, n_law_is_name, hi, l1, h1', h8', lc, a2, a3, a4, isN, h1, h8]
      · have h8' : ¬ (x.length : Int) ≤ 8 := by omega
        have h1' : (1 : Int) ≤ x.length := by omega
        simp [bodyF, evSs, evS, SM.seq, M.st, ev, evE, evT, pr, truM, M.bind, rdVar, mvVar, fzVar, PT.Env.at, mkBor, RV.isBor, quiet, quiets, quieto, M.own, M.pure, own, M.lift, subRV, atIx, RV.t, RV.o, RV.sv, OV.view, views, opCmp, opBin, evBs, evHd, io_var, io_mv, io_fzv, io_con, io_glob, io_bin, io_neg, io_cmp, io_chain, io_and, io_or, io_not, io_ite, io_lst, io_tup, io_dic, io_sub, io_slice, io_bi, io_call, io_meth, io_mut, io_att, io_lc, io_fz, io_io, RV.borOf, List.any_cons, List.any_nil, evI, biR, biT, asgE, asgEs, putE, evP, plVar, updP, getP, setP, putR, nix, SM.nx, M.stuck, outsOf, List.replicate, lstR, tupR, allOwn, allFz, asgT, bindT, bindTs, callE, assemble, asmL, asmJ, asmAt, backIo, oneIo, RV.still, RV.frz, evTs, PT.line, Ct_fn, Ct_gl, Ct_rp, List.lookup, List.range', Except.map, m_law_is_name, n_law_is_name, hi, l1, h1', h8', isN, h8]
    · have h1' : ¬ (1 : Int) ≤ x.length := by omega
      simp [bodyF, evSs, evS, SM.seq, M.st, ev, evE, evT, pr, truM, M.bind, rdVar, mvVar, fzVar, PT.Env.at, mkBor, RV.isBor, quiet, quiets, quieto, M.own, M.pure, own, M.lift, subRV, atIx, RV.t, RV.o, RV.sv, OV.view, views, opCmp, opBin, evBs, evHd, io_var, io_mv, io_fzv, io_con, io_glob, io_bin, io_neg, io_cmp, io_chain, io_and, io_or, io_not, io_ite, io_lst, io_tup, io_dic, io_sub, io_slice, io_bi, io_call, io_meth, io_mut, io_att, io_lc, io_fz, io_io, RV.borOf, List.any_cons, List.any_nil, evI, biR, biT, asgE, asgEs, putE, evP, plVar, updP, getP, setP, putR, nix, SM.nx, M.stuck, outsOf, List.replicate, lstR, tupR, allOwn, allFz, asgT, bindT, bindTs, callE, assemble, asmL, asmJ, asmAt, backIo, oneIo, RV.still, RV.frz, evTs, PT.line, Ct_fn, Ct_gl, Ct_rp, List.lookup, List.range', Except.map, m_law_is_name, n_law_is_name, hi, l1, h1', isN, h1]
  | _ => simp [bodyF, evSs, evS, SM.seq, M.st, ev, evE, evT, pr, truM, M.bind, rdVar, mvVar, fzVar, PT.Env.at, mkBor, RV.isBor, quiet, quiets, quieto, M.own, M.pure, own, M.lift, subRV, atIx, RV.t, RV.o, RV.sv, OV.view, views, opCmp, opBin, evBs, evHd, io_var, io_mv, io_fzv, io_con, io_glob, io_bin, io_neg, io_cmp, io_chain, io_and, io_or, io_not, io_ite, io_lst, io_tup, io_dic, io_sub, io_slice, io_bi, io_call, io_meth, io_mut, io_att, io_lc, io_fz, io_io, RV.borOf, List.any_cons, List.any_nil, evI, biR, biT, asgE, asgEs, putE, evP, plVar, updP, getP, setP, putR, nix, SM.nx, M.stuck, outsOf, List.replicate, lstR, tupR, allOwn, allFz, asgT, bindT, bindTs, callE, assemble, asmL, asmJ, asmAt, backIo, oneIo, RV.still, RV.frz, evTs, PT.line, Ct_fn, Ct_gl, Ct_rp, List.lookup, List.range', Except.map, m_law_is_name, n_law_is_name, hi, isN]
theorem same1 (a b : Bool) : e_law_same.sem [.own (.fz (.bl a)), .own (.fz (.bl b))] = some (.ok (.fz (.bl (a == b))), []) := by
  unfold e_law_same
  have h : isiT "bool" (.bl a) = some true := rfl
  simp [bodyF, evSs, evS, SM.seq, M.st, ev, evE, evT, pr, truM, M.bind, rdVar, mvVar, fzVar, PT.Env.at, mkBor, RV.isBor, quiet, quiets, quieto, M.own, M.pure, own, M.lift, subRV, atIx, RV.t, RV.o, RV.sv, OV.view, views, opCmp, opBin, evBs, evHd, io_var, io_mv, io_fzv, io_con, io_glob, io_bin, io_neg, io_cmp, io_chain, io_and, io_or, io_not, io_ite, io_lst, io_tup, io_dic, io_sub, io_slice, io_bi, io_call, io_meth, io_mut, io_att, io_lc, io_fz, io_io, RV.borOf, List.any_cons, List.any_nil, evI, biR, biT, asgE, asgEs, putE, evP, plVar, updP, getP, setP, putR, nix, SM.nx, M.stuck, outsOf, List.replicate, lstR, tupR, allOwn, allFz, asgT, bindT, bindTs, callE, assemble, asmL, asmJ, asmAt, backIo, oneIo, RV.still, RV.frz, evTs, PT.line, Ct_fn, Ct_gl, Ct_rp, List.lookup, List.range', Except.map, m_law_same, n_law_same, h, eqOk, eqv]
theorem forL_inv {t : Tn} {body : SM} {I : PT.Env → Prop} : ∀ {items : List RV}, (∀ x ∈ items, ∀ env, I env → ∃ env1 env2, bindT t x env = some env1 ∧ body env1 = some (.nx, env2) ∧ I env2) → ∀ env, I env → ∃ env', forL t body items env = some (.nx, env') ∧ I env'
  | [], _, env, hI => ⟨env, rfl, hI⟩
  | x :: items, h, env, hI => by
    obtain ⟨e1, e2, h1, h2, h3⟩ := h x List.mem_cons_self env hI
    obtain ⟨e3, h4, h5⟩ := forL_inv (fun z hz => h z (List.mem_cons_of_mem _ hz)) e2 h3
    exact ⟨e3, by simp [forL, h1, h2, h4], h5⟩
theorem good_lit (w : Tx) (h : w.length ≤ 10) (ha : ascT w = true) : GoodT (.str w) := good_str (by omega) ha

end K11

set_option Elab.async false
set_option linter.all false
set_option maxRecDepth 100000
set_option maxHeartbeats 0
namespace K11
open PySem PySem.Spec PyProof.Rows L2 PT PTS
def isS (s : SV) : Prop := s = .un ∨ ∃ t, s = .own (.fz t)
theorem isS.calm {s : SV} (h : isS s) : s.calm = true := by
  rcases h with rfl | ⟨t, rfl⟩ <;> rfl
theorem t10 : tab10.lookup "_law_same" = some e_law_same ∧ tab10.lookup "is_name" = some e_is_name ∧ tab10.lookup "_law_pot" = some e_law_pot ∧ tab10.lookup "_law_drawn" = some e_law_drawn ∧ tab10.lookup "_law_is_name" = some e_law_is_name := ⟨rfl, rfl, rfl, rfl, rfl⟩
theorem body1 (ns : List Int) (k : Nat) (s2 s3 s4 s5 : SV) (h5 : isS s5) : ∃ t2 t3 t4, evSs (Ct gl fuel tab10) b_law_2 [.own (.fz (.lst (ns.map .int))), .own (.fz (.int k)), s2, s3, s4, s5] = some (.nx, [.own (.fz (.lst (ns.map .int))), .own (.fz (.int k)), .own (.fz t2), .own (.fz t3), .own (.fz t4), s5]) := by
  obtain ⟨a, b, e1, ha⟩ := pot1 ns k
  obtain ⟨t, a', b', e2, g⟩ := drawn1 a b ha
  obtain ⟨x, hx⟩ := g.rp
  have e3 := name1 g
  have e4 := name2 g
  have e5 := same1 (isN t) (isN t)
  refine ⟨t, .str x, .bl (isN t), ?_⟩
  have lc : (ev (Ct gl fuel tab10) x_law_1).1 [.own (.fz (.lst (ns.map .int))), .own (.fz (.int k)), .own (.fz t), .own (.fz (.str x)), .own (.fz (.bl (isN t))), s5] = some (.ok (.own (.lst [.fz (.bl true), .fz (.bl true), .fz (.bl true)])), [.own (.fz (.lst (ns.map .int))), .own (.fz (.int k)), .own (.fz t), .own (.fz (.str x)), .own (.fz (.bl (isN t))), s5]) := by
    refine (ev_lc (rs := [.own (.lst [.fz (.bl (isN t)), .fz (.bl (isN t)), .fz (.bl (isN t))])]) (items := [own (.bl (isN t)), own (.bl (isN t)), own (.bl (isN t))]) (env1 := [.own (.fz (.lst (ns.map .int))), .own (.fz (.int k)), .own (.fz t), .own (.fz (.str x)), .own (.fz (.bl (isN t))), s5])
      (env2 := [.own (.fz (.lst (ns.map .int))), .own (.fz (.int k)), .own (.fz t), .own (.fz (.str x)), .own (.fz (.bl (isN t))), .own (.fz (.bl (isN t)))]) ?_ (by simp [itemsOf, allFzO]) ?_ (by simp [PT.line]) ?_ ?_).2
    · simp [bodyF, evSs, evS, SM.seq, M.st, ev, evE, evT, pr, truM, M.bind, rdVar, mvVar, fzVar, PT.Env.at, mkBor, RV.isBor, quiet, quiets, quieto, M.own, M.pure, own, M.lift, subRV, atIx, RV.t, RV.o, RV.sv, OV.view, views, opCmp, opBin, evBs, evHd, io_var, io_mv, io_fzv, io_con, io_glob, io_bin, io_neg, io_cmp, io_chain, io_and, io_or, io_not, io_ite, io_lst, io_tup, io_dic, io_sub, io_slice, io_bi, io_call, io_meth, io_mut, io_att, io_lc, io_fz, io_io, RV.borOf, List.any_cons, List.any_nil, evI, biR, biT, asgE, asgEs, putE, evP, plVar, updP, getP, setP, putR, nix, SM.nx, M.stuck, outsOf, List.replicate, lstR, tupR, allOwn, allFz, asgT, bindT, bindTs, callE, assemble, asmL, asmJ, asmAt, backIo, oneIo, RV.still, RV.frz, evTs, PT.line, Ct_fn, Ct_gl, Ct_rp, List.lookup, List.range', Except.map, t10, f_is_name, e3]
    · simp [rootOf, own, lockE, calmAt, Tn.slots, PT.Env.at, h5.calm]
    · simp [bodyF, evSs, evS, SM.seq, M.st, ev, evE, evT, pr, truM, M.bind, rdVar, mvVar, fzVar, PT.Env.at, mkBor, RV.isBor, quiet, quiets, quieto, M.own, M.pure, own, M.lift, subRV, atIx, RV.t, RV.o, RV.sv, OV.view, views, opCmp, opBin, evBs, evHd, io_var, io_mv, io_fzv, io_con, io_glob, io_bin, io_neg, io_cmp, io_chain, io_and, io_or, io_not, io_ite, io_lst, io_tup, io_dic, io_sub, io_slice, io_bi, io_call, io_meth, io_mut, io_att, io_lc, io_fz, io_io, RV.borOf, List.any_cons, List.any_nil, evI, biR, biT, asgE, asgEs, putE, evP, plVar, updP, getP, setP, putR, nix, SM.nx, M.stuck, outsOf, List.replicate, lstR, tupR, allOwn, allFz, asgT, bindT, bindTs, callE, assemble, asmL, asmJ, asmAt, backIo, oneIo, RV.still, RV.frz, evTs, PT.line, Ct_fn, Ct_gl, Ct_rp, List.lookup, List.range', Except.map, rootOf, lockE, lcLoop, lcStep, lcB, Tn.slots, wipeE, lcOwn, calmAt, SV.calm, t10, f_law_same, e5]
    · rcases h5 with rfl | ⟨_, rfl⟩ <;> simp [rootOf, own, lockE, unlockE, mergeE, mergeS, restoreE, Tn.slots, PT.Env.at]
  have eo : eqOk 60 (.str x) = true := by simp [eqOk]
  have ee : eqv (.str x) (.str x) = true := by simp [eqv]
  simp [bodyF, evSs, evS, SM.seq, M.st, ev, evE, evT, pr, truM, M.bind, rdVar, mvVar, fzVar, PT.Env.at, mkBor, RV.isBor, quiet, quiets, quieto, M.own, M.pure, own, M.lift, subRV, atIx, RV.t, RV.o, RV.sv, OV.view, views, opCmp, opBin, evBs, evHd, io_var, io_mv, io_fzv, io_con, io_glob, io_bin, io_neg, io_cmp, io_chain, io_and, io_or, io_not, io_ite, io_lst, io_tup, io_dic, io_sub, io_slice, io_bi, io_call, io_meth, io_mut, io_att, io_lc, io_fz, io_io, RV.borOf, List.any_cons, List.any_nil, evI, biR, biT, asgE, asgEs, putE, evP, plVar, updP, getP, setP, putR, nix, SM.nx, M.stuck, outsOf, List.replicate, lstR, tupR, allOwn, allFz, asgT, bindT, bindTs, callE, assemble, asmL, asmJ, asmAt, backIo, oneIo, RV.still, RV.frz, evTs, PT.line, Ct_fn, Ct_gl, Ct_rp, List.lookup, List.range', Except.map, b_law_2, t10, f_law_pot, f_law_drawn, f_law_is_name, e1, e2, e4, hx, lc, io_x_law_1, allTru, eo, ee]
theorem law_true (ns : List Int) (h : ns.length ≤ 63) : bodyF (Ct gl fuel tab10) n_law.length m_law [] [.own (.fz (.lst (ns.map .int)))] = some (.ok (.fz (.bl true)), []) := by
  let I : PT.Env → Prop := fun env => ∃ s1 s2 s3 s4 s5, isS s1 ∧ isS s2 ∧ isS s3 ∧ isS s4 ∧ isS s5 ∧ env = [.own (.fz (.lst (ns.map .int))), s1, s2, s3, s4, s5]
  let n : Int := if (if (ns.length : Int) < 40 then (ns.length : Int) else 40) > 4 then (if (ns.length : Int) < 40 then (ns.length : Int) else 40) else 4
  have hn : n ≤ 40 := by show (if (if (ns.length : Int) < 40 then (ns.length : Int) else 40) > 4 then (if (ns.length : Int) < 40 then (ns.length : Int) else 40) else 4) ≤ 40; split <;> (try split) <;> omega
  have hn0 : 0 ≤ n := by show 0 ≤ (if (if (ns.length : Int) < 40 then (ns.length : Int) else 40) > 4 then (if (ns.length : Int) < 40 then (ns.length : Int) else 40) else 4); split <;> (try split) <;> omega
  have uu : isS .un := .inl rfl
  obtain ⟨env', e, s1, s2, s3, s4, s5, h1, h2, h3, h4, h5, rfl⟩ := forL_inv (t := .nm 1) (body := evSs (Ct gl fuel tab10) b_law_2) (I := I) (items := (List.range n.toNat).map fun (k : Nat) => own (.int k)) (fun x hx env => by
    rintro ⟨s1, s2, s3, s4, s5, h1, h2, h3, h4, h5, rfl⟩
    obtain ⟨k, hk, rfl⟩ := List.mem_map.mp hx
    obtain ⟨t2, t3, t4, e⟩ := body1 ns k s2 s3 s4 s5 h5
    exact ⟨_, _, rfl, e, _, _, _, _, _, .inr ⟨_, rfl⟩, .inr ⟨_, rfl⟩, .inr ⟨_, rfl⟩, .inr ⟨_, rfl⟩, h5, rfl⟩) [.own (.fz (.lst (ns.map .int))), .un, .un, .un, .un, .un] ⟨_, _, _, _, _, uu, uu, uu, uu, uu, rfl⟩
  have its : itemsOf .range1 [own (.int n)] = some ((List.range n.toNat).map fun (k : Nat) => own (.int k)) := by
    simp only [itemsOf, own]
    rw [if_pos ⟨by omega, by simp only [PT.line]; omega⟩]
  have lp : evS (Ct gl fuel tab10) l_law_3 [.own (.fz (.lst (ns.map .int))), .un, .un, .un, .un, .un] = some (.nx, [.own (.fz (.lst (ns.map .int))), s1, s2, s3, s4, s5]) := by
    have ea : evBs (Ct gl fuel tab10) [.bi .max2 [.con (.int 4), .bi .min2 [.con (.int 40), .bi .len [.var 0]]]] [.own (.fz (.lst (ns.map .int))), .un, .un, .un, .un, .un] = some (.ok [own (.int n)], [.own (.fz (.lst (ns.map .int))), .un, .un, .un, .un, .un]) := by
      simp [bodyF, evSs, evS, SM.seq, M.st, ev, evE, evT, pr, truM, M.bind, rdVar, mvVar, fzVar, PT.Env.at, mkBor, RV.isBor, quiet, quiets, quieto, M.own, M.pure, own, M.lift, subRV, atIx, RV.t, RV.o, RV.sv, OV.view, views, opCmp, opBin, evBs, evHd, io_var, io_mv, io_fzv, io_con, io_glob, io_bin, io_neg, io_cmp, io_chain, io_and, io_or, io_not, io_ite, io_lst, io_tup, io_dic, io_sub, io_slice, io_bi, io_call, io_meth, io_mut, io_att, io_lc, io_fz, io_io, RV.borOf, List.any_cons, List.any_nil, evI, biR, biT, asgE, asgEs, putE, evP, plVar, updP, getP, setP, putR, nix, SM.nx, M.stuck, outsOf, List.replicate, lstR, tupR, allOwn, allFz, asgT, bindT, bindTs, callE, assemble, asmL, asmJ, asmAt, backIo, oneIo, RV.still, RV.frz, evTs, PT.line, Ct_fn, Ct_gl, Ct_rp, List.lookup, List.range', Except.map, n]
    unfold l_law_3
    simp only [evS, M.st]
    rw [ea]
    simp only [forE]
    rw [its]
    simp only [rootOf, own, lockE] at e ⊢
    rw [e]
    rcases h1 with rfl | ⟨_, rfl⟩ <;> rcases h2 with rfl | ⟨_, rfl⟩ <;> rcases h3 with rfl | ⟨_, rfl⟩ <;> rcases h4 with rfl | ⟨_, rfl⟩ <;> rcases h5 with rfl | ⟨_, rfl⟩ <;> rfl
  have n1 := name1 (good_lit [97] (by decide) (by decide))
  have n2 := name1 (good_lit [] (by decide) (by decide))
  have i1 : isN (.str [97]) = true := by decide
  have i2 : isN (.str []) = false := by decide
  have w1 := same1 true true
  have w2 := same1 false false
  rw [i1] at n1
  rw [i2] at n2
  simp [bodyF, evSs, evS, SM.seq, M.st, ev, evE, evT, pr, truM, M.bind, rdVar, mvVar, fzVar, PT.Env.at, mkBor, RV.isBor, quiet, quiets, quieto, M.own, M.pure, own, M.lift, subRV, atIx, RV.t, RV.o, RV.sv, OV.view, views, opCmp, opBin, evBs, evHd, io_var, io_mv, io_fzv, io_con, io_glob, io_bin, io_neg, io_cmp, io_chain, io_and, io_or, io_not, io_ite, io_lst, io_tup, io_dic, io_sub, io_slice, io_bi, io_call, io_meth, io_mut, io_att, io_lc, io_fz, io_io, RV.borOf, List.any_cons, List.any_nil, evI, biR, biT, asgE, asgEs, putE, evP, plVar, updP, getP, setP, putR, nix, SM.nx, M.stuck, outsOf, List.replicate, lstR, tupR, allOwn, allFz, asgT, bindT, bindTs, callE, assemble, asmL, asmJ, asmAt, backIo, oneIo, RV.still, RV.frz, evTs, PT.line, Ct_fn, Ct_gl, Ct_rp, List.lookup, List.range', Except.map, m_law, n_law, lp, t10, f_is_name, f_law_same, n1, n2, w1, w2]

end K11

set_option Elab.async false
set_option linter.all false
set_option maxRecDepth 100000
set_option maxHeartbeats 0
namespace K11
open PySem PySem.Spec PyProof.Rows L2 PT PTS

section
variable {P : Program} {w : World} {K : PySem.W.Frag} {mg : Str → Option Value} {base : Heap} {cl xc : Clt} {f : Addr} {fd : FuncData}
abbrev F_is_name (K : PySem.W.Frag) (f : Addr) (fd : FuncData) : Prop := FunD K (fS "is_name") (fS "is_name") (defArgs (top 3)) (defBody (top 3)) (defScope (top 3)) [] [] f fd
theorem sc_is_name : FnScope n_is_name p_is_name (defScope (top 3)) := ⟨rfl, rfl, rfl, by decide +kernel, rfl, by decide +kernel, by decide +kernel⟩
theorem c_is_name : chkSs { S0 with N := n_is_name } (fun _ => true) (defScope (top 3)) m_is_name (defBody (top 3)) = true := by decide +kernel
theorem hs_is_name (F : F_is_name K f fd) : ∀ np kns, (np, kns) ∈ sh_is_name → Shape K fd p_is_name [] np kns := by
  intro np kns h
  simp only [sh_is_name, List.mem_cons, Prod.mk.injEq, List.not_mem_nil, or_false] at h
  rcases h with ⟨rfl, rfl⟩ | ⟨rfl, rfl⟩
  · refine shape_of F fun kV doc pm an cdv ct us ws zs hu hw e => ?_
    match us, hu, ws, hw, e with
    | [], _, [v0], _, e => cases e; rfl
  · refine shape_of F fun kV doc pm an cdv ct us ws zs hu hw e => ?_
    match us, hu, ws, hw, e with
    | [u0], _, [], _, e => cases e; rfl
theorem k_is_name (kit : KitOk P w K mg base cl xc (Ct gl fuel tab0) S0 0) (F : F_is_name K f fd) (g : mg (fS "is_name") = some (.ref f)) : KitOk P w K mg base cl xc (Ct gl fuel tab1) S1 1 :=
  kit.add F g sc_is_name (by decide +kernel) (by decide +kernel) c_is_name (no_dfl cl) (hs_is_name F)
abbrev F_law_pot (K : PySem.W.Frag) (f : Addr) (fd : FuncData) : Prop := FunD K (fS "_law_pot") (fS "_law_pot") (defArgs (top 5)) (defBody (top 5)) (defScope (top 5)) [] [] f fd
theorem sc_law_pot : FnScope n_law_pot p_law_pot (defScope (top 5)) := ⟨rfl, rfl, rfl, by decide +kernel, rfl, by decide +kernel, by decide +kernel⟩
theorem c_law_pot : chkSs { S1 with N := n_law_pot } (fun _ => true) (defScope (top 5)) m_law_pot (defBody (top 5)) = true := by decide +kernel
theorem hs_law_pot (F : F_law_pot K f fd) : ∀ np kns, (np, kns) ∈ sh_law_pot → Shape K fd p_law_pot [] np kns := by
  intro np kns h
  simp only [sh_law_pot, List.mem_cons, Prod.mk.injEq, List.not_mem_nil, or_false] at h
  rcases h with ⟨rfl, rfl⟩
  · refine shape_of F fun kV doc pm an cdv ct us ws zs hu hw e => ?_
    match us, hu, ws, hw, e with
    | [u0, u1], _, [], _, e => cases e; rfl
theorem k_law_pot (kit : KitOk P w K mg base cl xc (Ct gl fuel tab1) S1 1) (F : F_law_pot K f fd) (g : mg (fS "_law_pot") = some (.ref f)) : KitOk P w K mg base cl xc (Ct gl fuel tab2) S2 2 :=
  kit.add F g sc_law_pot (by decide +kernel) (by decide +kernel) c_law_pot (no_dfl cl) (hs_law_pot F)
abbrev F_law_draw (K : PySem.W.Frag) (f : Addr) (fd : FuncData) : Prop := FunD K (fS "_law_draw") (fS "_law_draw") (defArgs (top 6)) (defBody (top 6)) (defScope (top 6)) [] [] f fd
theorem sc_law_draw : FnScope n_law_draw p_law_draw (defScope (top 6)) := ⟨rfl, rfl, rfl, by decide +kernel, rfl, by decide +kernel, by decide +kernel⟩
theorem c_law_draw : chkSs { S2 with N := n_law_draw } (fun _ => true) (defScope (top 6)) m_law_draw (defBody (top 6)) = true := by decide +kernel
theorem hs_law_draw (F : F_law_draw K f fd) : ∀ np kns, (np, kns) ∈ sh_law_draw → Shape K fd p_law_draw [] np kns := by
  intro np kns h
  simp only [sh_law_draw, List.mem_cons, Prod.mk.injEq, List.not_mem_nil, or_false] at h
  rcases h with ⟨rfl, rfl⟩
  · refine shape_of F fun kV doc pm an cdv ct us ws zs hu hw e => ?_
    match us, hu, ws, hw, e with
    | [u0, u1], _, [], _, e => cases e; rfl
theorem k_law_draw (kit : KitOk P w K mg base cl xc (Ct gl fuel tab2) S2 2) (F : F_law_draw K f fd) (g : mg (fS "_law_draw") = some (.ref f)) : KitOk P w K mg base cl xc (Ct gl fuel tab3) S3 3 :=
  kit.add F g sc_law_draw (by decide +kernel) (by decide +kernel) c_law_draw (no_dfl cl) (hs_law_draw F)
abbrev F_law_word (K : PySem.W.Frag) (f : Addr) (fd : FuncData) : Prop := FunD K (fS "_law_word") (fS "_law_word") (defArgs (top 7)) (defBody (top 7)) (defScope (top 7)) [] [] f fd
theorem sc_law_word : FnScope n_law_word p_law_word (defScope (top 7)) := ⟨rfl, rfl, rfl, by decide +kernel, rfl, by decide +kernel, by decide +kernel⟩
theorem c_law_word : chkSs { S3 with N := n_law_word } (fun _ => true) (defScope (top 7)) m_law_word (defBody (top 7)) = true := by decide +kernel
theorem hs_law_word (F : F_law_word K f fd) : ∀ np kns, (np, kns) ∈ sh_law_word → Shape K fd p_law_word [] np kns := by
  intro np kns h
  simp only [sh_law_word, List.mem_cons, Prod.mk.injEq, List.not_mem_nil, or_false] at h
  rcases h with ⟨rfl, rfl⟩
  · refine shape_of F fun kV doc pm an cdv ct us ws zs hu hw e => ?_
    match us, hu, ws, hw, e with
    | [u0, u1], _, [], _, e => cases e; rfl
theorem k_law_word (kit : KitOk P w K mg base cl xc (Ct gl fuel tab3) S3 3) (F : F_law_word K f fd) (g : mg (fS "_law_word") = some (.ref f)) : KitOk P w K mg base cl xc (Ct gl fuel tab4) S4 4 :=
  kit.add F g sc_law_word (by decide +kernel) (by decide +kernel) c_law_word (no_dfl cl) (hs_law_word F)
abbrev F_law_sign (K : PySem.W.Frag) (f : Addr) (fd : FuncData) : Prop := FunD K (fS "_law_sign") (fS "_law_sign") (defArgs (top 8)) (defBody (top 8)) (defScope (top 8)) [] [] f fd
theorem sc_law_sign : FnScope n_law_sign p_law_sign (defScope (top 8)) := ⟨rfl, rfl, rfl, by decide +kernel, rfl, by decide +kernel, by decide +kernel⟩
theorem c_law_sign : chkSs { S4 with N := n_law_sign } (fun _ => true) (defScope (top 8)) m_law_sign (defBody (top 8)) = true := by decide +kernel
theorem hs_law_sign (F : F_law_sign K f fd) : ∀ np kns, (np, kns) ∈ sh_law_sign → Shape K fd p_law_sign [] np kns := by
  intro np kns h
  simp only [sh_law_sign, List.mem_cons, Prod.mk.injEq, List.not_mem_nil, or_false] at h
  rcases h with ⟨rfl, rfl⟩
  · refine shape_of F fun kV doc pm an cdv ct us ws zs hu hw e => ?_
    match us, hu, ws, hw, e with
    | [u0], _, [], _, e => cases e; rfl
theorem k_law_sign (kit : KitOk P w K mg base cl xc (Ct gl fuel tab4) S4 4) (F : F_law_sign K f fd) (g : mg (fS "_law_sign") = some (.ref f)) : KitOk P w K mg base cl xc (Ct gl fuel tab5) S5 5 :=
  kit.add F g sc_law_sign (by decide +kernel) (by decide +kernel) c_law_sign (no_dfl cl) (hs_law_sign F)
abbrev F_law_spoilt (K : PySem.W.Frag) (f : Addr) (fd : FuncData) : Prop := FunD K (fS "_law_spoilt") (fS "_law_spoilt") (defArgs (top 9)) (defBody (top 9)) (defScope (top 9)) [] [] f fd
theorem sc_law_spoilt : FnScope n_law_spoilt p_law_spoilt (defScope (top 9)) := ⟨rfl, rfl, rfl, by decide +kernel, rfl, by decide +kernel, by decide +kernel⟩
theorem c_law_spoilt : chkSs { S5 with N := n_law_spoilt } (fun _ => true) (defScope (top 9)) m_law_spoilt (defBody (top 9)) = true := by decide +kernel
theorem hs_law_spoilt (F : F_law_spoilt K f fd) : ∀ np kns, (np, kns) ∈ sh_law_spoilt → Shape K fd p_law_spoilt [] np kns := by
  intro np kns h
  simp only [sh_law_spoilt, List.mem_cons, Prod.mk.injEq, List.not_mem_nil, or_false] at h
  rcases h with ⟨rfl, rfl⟩
  · refine shape_of F fun kV doc pm an cdv ct us ws zs hu hw e => ?_
    match us, hu, ws, hw, e with
    | [u0, u1], _, [], _, e => cases e; rfl
theorem k_law_spoilt (kit : KitOk P w K mg base cl xc (Ct gl fuel tab5) S5 5) (F : F_law_spoilt K f fd) (g : mg (fS "_law_spoilt") = some (.ref f)) : KitOk P w K mg base cl xc (Ct gl fuel tab6) S6 6 :=
  kit.add F g sc_law_spoilt (by decide +kernel) (by decide +kernel) c_law_spoilt (no_dfl cl) (hs_law_spoilt F)
abbrev F_law_odd (K : PySem.W.Frag) (f : Addr) (fd : FuncData) : Prop := FunD K (fS "_law_odd") (fS "_law_odd") (defArgs (top 10)) (defBody (top 10)) (defScope (top 10)) [] [] f fd
theorem sc_law_odd : FnScope n_law_odd p_law_odd (defScope (top 10)) := ⟨rfl, rfl, rfl, by decide +kernel, rfl, by decide +kernel, by decide +kernel⟩
theorem c_law_odd : chkSs { S6 with N := n_law_odd } (fun _ => true) (defScope (top 10)) m_law_odd (defBody (top 10)) = true := by decide +kernel
theorem hs_law_odd (F : F_law_odd K f fd) : ∀ np kns, (np, kns) ∈ sh_law_odd → Shape K fd p_law_odd [] np kns := by
  intro np kns h
  simp only [sh_law_odd, List.mem_cons, Prod.mk.injEq, List.not_mem_nil, or_false] at h
  rcases h with ⟨rfl, rfl⟩
  · refine shape_of F fun kV doc pm an cdv ct us ws zs hu hw e => ?_
    match us, hu, ws, hw, e with
    | [u0, u1], _, [], _, e => cases e; rfl
theorem k_law_odd (kit : KitOk P w K mg base cl xc (Ct gl fuel tab6) S6 6) (F : F_law_odd K f fd) (g : mg (fS "_law_odd") = some (.ref f)) : KitOk P w K mg base cl xc (Ct gl fuel tab7) S7 7 :=
  kit.add F g sc_law_odd (by decide +kernel) (by decide +kernel) c_law_odd (no_dfl cl) (hs_law_odd F)
abbrev F_law_drawn (K : PySem.W.Frag) (f : Addr) (fd : FuncData) : Prop := FunD K (fS "_law_drawn") (fS "_law_drawn") (defArgs (top 11)) (defBody (top 11)) (defScope (top 11)) [] [] f fd
theorem sc_law_drawn : FnScope n_law_drawn p_law_drawn (defScope (top 11)) := ⟨rfl, rfl, rfl, by decide +kernel, rfl, by decide +kernel, by decide +kernel⟩
theorem c_law_drawn : chkSs { S7 with N := n_law_drawn } (fun _ => true) (defScope (top 11)) m_law_drawn (defBody (top 11)) = true := by decide +kernel
theorem hs_law_drawn (F : F_law_drawn K f fd) : ∀ np kns, (np, kns) ∈ sh_law_drawn → Shape K fd p_law_drawn [] np kns := by
  intro np kns h
  simp only [sh_law_drawn, List.mem_cons, Prod.mk.injEq, List.not_mem_nil, or_false] at h
  rcases h with ⟨rfl, rfl⟩
  · refine shape_of F fun kV doc pm an cdv ct us ws zs hu hw e => ?_
    match us, hu, ws, hw, e with
    | [u0], _, [], _, e => cases e; rfl
theorem k_law_drawn (kit : KitOk P w K mg base cl xc (Ct gl fuel tab7) S7 7) (F : F_law_drawn K f fd) (g : mg (fS "_law_drawn") = some (.ref f)) : KitOk P w K mg base cl xc (Ct gl fuel tab8) S8 8 :=
  kit.add F g sc_law_drawn (by decide +kernel) (by decide +kernel) c_law_drawn (no_dfl cl) (hs_law_drawn F)
abbrev F_law_is_name (K : PySem.W.Frag) (f : Addr) (fd : FuncData) : Prop := FunD K (fS "_law_is_name") (fS "_law_is_name") (defArgs (top 12)) (defBody (top 12)) (defScope (top 12)) [] [] f fd
theorem sc_law_is_name : FnScope n_law_is_name p_law_is_name (defScope (top 12)) := ⟨rfl, rfl, rfl, by decide +kernel, rfl, by decide +kernel, by decide +kernel⟩
theorem c_law_is_name : chkSs { S8 with N := n_law_is_name } (fun _ => true) (defScope (top 12)) m_law_is_name (defBody (top 12)) = true := by decide +kernel
theorem hs_law_is_name (F : F_law_is_name K f fd) : ∀ np kns, (np, kns) ∈ sh_law_is_name → Shape K fd p_law_is_name [] np kns := by
  intro np kns h
  simp only [sh_law_is_name, List.mem_cons, Prod.mk.injEq, List.not_mem_nil, or_false] at h
  rcases h with ⟨rfl, rfl⟩
  · refine shape_of F fun kV doc pm an cdv ct us ws zs hu hw e => ?_
    match us, hu, ws, hw, e with
    | [u0], _, [], _, e => cases e; rfl
theorem k_law_is_name (kit : KitOk P w K mg base cl xc (Ct gl fuel tab8) S8 8) (F : F_law_is_name K f fd) (g : mg (fS "_law_is_name") = some (.ref f)) : KitOk P w K mg base cl xc (Ct gl fuel tab9) S9 9 :=
  kit.add F g sc_law_is_name (by decide +kernel) (by decide +kernel) c_law_is_name (no_dfl cl) (hs_law_is_name F)
abbrev F_law_same (K : PySem.W.Frag) (f : Addr) (fd : FuncData) : Prop := FunD K (fS "_law_same") (fS "_law_same") (defArgs (top 13)) (defBody (top 13)) (defScope (top 13)) [] [] f fd
theorem sc_law_same : FnScope n_law_same p_law_same (defScope (top 13)) := ⟨rfl, rfl, rfl, by decide +kernel, rfl, by decide +kernel, by decide +kernel⟩
theorem c_law_same : chkSs { S9 with N := n_law_same } (fun _ => true) (defScope (top 13)) m_law_same (defBody (top 13)) = true := by decide +kernel
theorem hs_law_same (F : F_law_same K f fd) : ∀ np kns, (np, kns) ∈ sh_law_same → Shape K fd p_law_same [] np kns := by
  intro np kns h
  simp only [sh_law_same, List.mem_cons, Prod.mk.injEq, List.not_mem_nil, or_false] at h
  rcases h with ⟨rfl, rfl⟩
  · refine shape_of F fun kV doc pm an cdv ct us ws zs hu hw e => ?_
    match us, hu, ws, hw, e with
    | [u0, u1], _, [], _, e => cases e; rfl
theorem k_law_same (kit : KitOk P w K mg base cl xc (Ct gl fuel tab9) S9 9) (F : F_law_same K f fd) (g : mg (fS "_law_same") = some (.ref f)) : KitOk P w K mg base cl xc (Ct gl fuel tab10) S10 10 :=
  kit.add F g sc_law_same (by decide +kernel) (by decide +kernel) c_law_same (no_dfl cl) (hs_law_same F)
abbrev F_law (K : PySem.W.Frag) (f : Addr) (fd : FuncData) : Prop := FunD K (fS "law") (fS "law") (defArgs (top 14)) (defBody (top 14)) (defScope (top 14)) [] [] f fd
theorem sc_law : FnScope n_law p_law (defScope (top 14)) := ⟨rfl, rfl, rfl, by decide +kernel, rfl, by decide +kernel, by decide +kernel⟩
theorem c_law : chkSs { S10 with N := n_law } (fun _ => true) (defScope (top 14)) m_law (defBody (top 14)) = true := by decide +kernel
theorem hs_law (F : F_law K f fd) : ∀ np kns, (np, kns) ∈ sh_law → Shape K fd p_law [] np kns := by
  intro np kns h
  exact absurd h (by simp [sh_law])
end
def dDef (j : Nat) (x : String) : He.DefD := ⟨(fS x, none), fS x, fS x, defArgs (top j), defBody (top j), defScope (top j), [], []⟩
def defs : List String := ["is_name", "_law_pot", "_law_draw", "_law_word", "_law_sign", "_law_spoilt", "_law_odd", "_law_drawn", "_law_is_name", "_law_same", "law"]
def fn : List He.DefD := [dDef 3 "is_name", dDef 5 "_law_pot", dDef 6 "_law_draw", dDef 7 "_law_word", dDef 8 "_law_sign", dDef 9 "_law_spoilt", dDef 10 "_law_odd", dDef 11 "_law_drawn", dDef 12 "_law_is_name", dDef 13 "_law_same", dDef 14 "law"]
def fa : List He.Fa := facts bis defs cons
abbrev R : PySem.W.OpenRow := PySem.W.OpenLaw.row PySem.Challenge.rw_backwater_k11_names
abbrev hk : PySem.W.Hook := hookL 4 fa fn
def ob (s : PySem.W.SharedT) : He.AlD := obsLG 4 fa fn (HandSHeadRun.getT s)
theorem ob_eq (s : PySem.W.SharedT) : ob s = hk.obs s.abs := obsLG_eq (HandSHeadRun.getT_eq s)
def names : List PySem.Str := ["LETTERS", "LONGEST", "is_name", "_law_pot", "_law_draw", "_law_word", "_law_sign", "_law_spoilt", "_law_odd", "_law_drawn", "_law_is_name", "_law_same"]
theorem run (w : World) : HandSHeadRun.RunEq R (PySem.W.view R.prog [14]) hk ob 4000 names w := by
  intro os
  kernel_rfl
theorem gls_ok {K : PySem.W.Frag} {h : Heap} {mg : Str → Option Value} {cl : Clt} (X : K.In h) (G : h.Ns mainGlobals mg) (c : He.SaysD fa fn K) : ∀ g ∈ gls, ∃ v u t, gl g = some t ∧ mg (fS g) = some u ∧ RelV v u ∧ ∀ H, RepF cl H v t := by
  intro g hg
  simp only [gls, List.mem_cons, List.not_mem_nil, or_false] at hg
  rcases hg with rfl | rfl
  · obtain ⟨v, u, e1, e2, e3⟩ := facts_str (cl := cl) (g := "LETTERS") X G c (z := [97, 98, 99, 100, 101, 102, 103, 104, 105, 106, 107, 108, 109, 110, 111, 112, 113, 114, 115, 116, 117, 118, 119, 120, 121, 122]) (by simp [cons])
    exact ⟨v, u, _, rfl, e1, e2, e3⟩
  · obtain ⟨v, u, e1, e2, e3⟩ := facts_int (cl := cl) (g := "LONGEST") X G c (z := (8)) (by simp [cons])
    exact ⟨v, u, _, rfl, e1, e2, e3⟩
theorem head_F {P : Program} {w : World} {K : PySem.W.Frag} {h : Heap} {mg : Str → Option Value} {fad : Addr} (X : K.In h) (c : He.SaysD fa fn K) (G : h.Ns mainGlobals mg) (hmg : mg (fS "law") = some (.ref fad)) :
    ∃ (fd : FuncData) (sp : Sp), (∀ (s : Shared) (u : Value), BindsTo s fd ⟨[u], []⟩ [(fS "_law_script", u)]) ∧
      (∀ (H : Hp) (o : Obj) (a : Addr) (ns : List Int), ns.length ≤ 63 → H a = some (.frz o (.lst (ns.map V.int))) → sp [.ref a] H (fun v _ => v = .bl true) fun _ _ _ => False) ∧
      ∀ base : Heap, K.In base → base.Ns mainGlobals mg → (∃ o, base.get? sysModules = some o) → FnG P w K mg base 11 fad fd [fS "_law_script"] sp := by
  obtain ⟨d0, F0⟩ := c.def_ 0 (d := dDef 3 "is_name") rfl
  have g0 := facts_glo (b := "is_name") X G c (by simp [defs])
  obtain ⟨d1, F1⟩ := c.def_ 1 (d := dDef 5 "_law_pot") rfl
  have g1 := facts_glo (b := "_law_pot") X G c (by simp [defs])
  obtain ⟨d2, F2⟩ := c.def_ 2 (d := dDef 6 "_law_draw") rfl
  have g2 := facts_glo (b := "_law_draw") X G c (by simp [defs])
  obtain ⟨d3, F3⟩ := c.def_ 3 (d := dDef 7 "_law_word") rfl
  have g3 := facts_glo (b := "_law_word") X G c (by simp [defs])
  obtain ⟨d4, F4⟩ := c.def_ 4 (d := dDef 8 "_law_sign") rfl
  have g4 := facts_glo (b := "_law_sign") X G c (by simp [defs])
  obtain ⟨d5, F5⟩ := c.def_ 5 (d := dDef 9 "_law_spoilt") rfl
  have g5 := facts_glo (b := "_law_spoilt") X G c (by simp [defs])
  obtain ⟨d6, F6⟩ := c.def_ 6 (d := dDef 10 "_law_odd") rfl
  have g6 := facts_glo (b := "_law_odd") X G c (by simp [defs])
  obtain ⟨d7, F7⟩ := c.def_ 7 (d := dDef 11 "_law_drawn") rfl
  have g7 := facts_glo (b := "_law_drawn") X G c (by simp [defs])
  obtain ⟨d8, F8⟩ := c.def_ 8 (d := dDef 12 "_law_is_name") rfl
  have g8 := facts_glo (b := "_law_is_name") X G c (by simp [defs])
  obtain ⟨d9, F9⟩ := c.def_ 9 (d := dDef 13 "_law_same") rfl
  have g9 := facts_glo (b := "_law_same") X G c (by simp [defs])
  obtain ⟨d10, F10⟩ := c.def_ 10 (d := dDef 14 "law") rfl
  have g10 := facts_glo (b := "law") X G c (by simp [defs])
  have e := hmg.symm.trans g10
  cases e
  have bnd := FunD.bindsA (ps := p_law) F10 fun _ _ _ _ _ _ us hl => match us, hl with | [_], _ => rfl
  refine ⟨d10, spOf (fun _ => none) (fun _ => none) ⟨1, [], [], bodyF (Ct gl fuel tab10) n_law.length m_law []⟩, fun s u => bnd s [u] rfl, fun H o a ns hl ha => law_sp (law_true ns hl) ha, fun base h1 h2 h3 => ?_⟩
  have k0 : KitOk P w K mg base (fun _ => none) (fun _ => none) (Ct gl fuel tab0) S0 0 := kit0 (gls_ok X G c) (facts_free X G c) h1 h3
  have k1 := k_is_name k0 F0 g0
  have k2 := k_law_pot k1 F1 g1
  have k3 := k_law_draw k2 F2 g2
  have k4 := k_law_word k3 F3 g3
  have k5 := k_law_sign k4 F4 g4
  have k6 := k_law_spoilt k5 F5 g5
  have k7 := k_law_odd k6 F6 g6
  have k8 := k_law_drawn k7 F7 g7
  have k9 := k_law_is_name k8 F8 g8
  have k10 := k_law_same k9 F9 g9
  have kN : KitOk P w K mg base (fun _ => none) (fun _ => none) (Ct gl fuel tab10) { S10 with N := n_law } 10 := ⟨k10.fns, k10.gls, k10.bis, k10.rp, k10.kin, k10.sm⟩
  exact def_ok (ps := p_law) F10 kN sc_law (by decide) (fun i h => absurd h List.not_mem_nil) c_law
end K11
open PySem PySem.W PySem.Calls PyProof.Rows
theorem PySem.Challenge.cw_backwater_k11_names_holds : PySem.Challenge.rw_backwater_k11_names.Holds := by
  w_on; o_law
  refine HandSHeadRun.head_any (r := OpenLaw.row PySem.Challenge.rw_backwater_k11_names) (q := view (OpenLaw.row PySem.Challenge.rw_backwater_k11_names).prog [14]) (H := K11.hk) (ob := K11.ob) (M := 4000) (loose := K11.names) (d := HandSHeadRun.topDef (OpenLaw.row PySem.Challenge.rw_backwater_k11_names).prog 14) (kwd := []) K11.ob_eq
    (by kernel_rfl) (fun s => by kernel_rfl) K11.run (by kernel_rfl) (by kernel_rfl) (by kernel_rfl) (by rfl) (by first | assumption | decide +kernel) (by decide +kernel) ⟨rfl, rfl, rfl, rfl, rfl, by decide +kernel⟩ ?hw ?hc
  case hw => w_witness2
  case hc =>
    refine PTS.walk_ofG (l := PySem.Challenge.rw_backwater_k11_names) (n := 63) (k := 11) (x := PTS.fS "_law_script") rfl (by decide) (by kernel_rfl) ⟨rfl, by decide, by decide⟩ ?F
    intro w mg fad h K X c G hmg0
    have hmg : mg (PTS.fS "law") = some (.ref fad) := by
      have e : (HandSHeadRun.topDef (OpenLaw.row PySem.Challenge.rw_backwater_k11_names).prog 14).name = PTS.fS "law" := by kernel_rfl
      rw [← e]
      exact hmg0
    exact K11.head_F X c G hmg

