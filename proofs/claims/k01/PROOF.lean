import PyProof.Rows.All
import Wide.All
import OpenK.AllK
import Wide.FinOn
import HandS.ForMost
import HandS.Exc
import HandS.ExcInit
import HandS.HeadHook1
import HandS.TupAny
import HandS.IsInst
import HandS.WideBits
import HandS.More
import HandS.Text
import HandS.ExcSuper
import KE.KExcSuper
import KE.KSuper
import HandS.Defaults
import HandS.ExcOwn
import HandS.ExcIs
import HandS.ExcField
import HandS.Dict
import KE.KExcIs
import HandS.MakeKwOnly
import PyProof.ReprRoads
import HandS.Comp
import HandS.Small
import HandS.HeadHook2
import HandS.Ends
import HandS.HeadEnd
import KE.KStateDown
import HandS.Head0
import HandS.Head1
import HandS.Head2
import HandS.EndBits
import HandS.WordsExc
import PySem.Challenge.RW_gatequarters_k01_errors_made
set_option Elab.async false
section
set_option Elab.async false
set_option linter.all false
set_option maxRecDepth 100000
/-! MpA: a small machine of its own: values, store, expressions, statements, and what they compute. -/
namespace MP
open PySem

/-- values: tuples are data, lists and instances stand in the store -/
inductive AV where
  | non
  | bl (b : Bool)
  | int (i : Int)
  | str (x : Str)
  | tup (xs : List AV)
  | ref (a : Nat)
  deriving Inhabited

/-- objects of the store -/
inductive AO where
  | lst (xs : List AV)
  | flst (xs : List AV)
  | dic (kvs : List (L2.Key × AV))
  | exc (c : Nat) (v : AV)
  | exn (c : Nat)
  | ins (c : Nat) (fs : List (Str × AV))
  deriving Inhabited

structure St where
  n : Nat
  g : Nat → Option AO

def St.push (s : St) (o : AO) : St := ⟨s.n + 1, fun a => if a = s.n then some o else s.g a⟩
def St.set (s : St) (a : Nat) (o : AO) : St := ⟨s.n, fun b => if b = a then some o else s.g b⟩

inductive Out (α : Type) where
  | ok (a : α) (s : St)
  | bad

abbrev M (α : Type) := St → Out α
def M.pure {α : Type} (a : α) : M α := fun s => .ok a s
def M.bind {α β : Type} (m : M α) (k : α → M β) : M β := fun s => match m s with
  | .ok a s' => k a s'
  | .bad => .bad
def M.bad {α : Type} : M α := fun _ => .bad
def M.get : M St := fun s => .ok s s
/-- a new object -/
def M.new (o : AO) : M AV := fun s => .ok (.ref s.n) (s.push o)
def M.guard {α : Type} (b : Bool) (m : M α) : M α := fun s => match b with
  | true => m s
  | false => .bad
def M.opt {α : Type} (o : Option α) : M α := fun s => match o with
  | some a => .ok a s
  | none => .bad

/-- the longest list, text -/
abbrev line : Nat := 16777216

/-! ### data that is read off -/
def mapO {α β : Type} (f : α → Option β) : List α → Option (List β)
  | [] => some []
  | x :: r => match f x, mapO f r with
    | some y, some ys => some (y :: ys)
    | _, _ => none
/-- lists and tuples of scalars, as deep as n -/
def rd (s : St) : Nat → AV → Option PyData
  | 0, _ => none
  | n + 1, v => match v with
    | .non => some .none
    | .bl b => some (.bool b)
    | .int i => some (.int i)
    | .str x => some (.str x)
    | .tup xs => (mapO (rd s n) xs).map .tuple
    | .ref a => match s.g a with
      | some (.lst xs) => (mapO (rd s n) xs).map .list
      | some (.flst xs) => (mapO (rd s n) xs).map .list
      | _ => none

/-! ### operators -/
inductive BOp where | add | sub | mul | mod | fdiv | pow
inductive COp where | eq | ne | lt | le | gt | ge | isn | notn | inn | notin
def inRange (i : Int) : Bool := decide (-(2 ^ 64) < i) && decide (i < 2 ^ 64)
def opB : BOp → AV → AV → M AV
  | .add, .int i, .int j => .pure (.int (i + j))
  | .add, .str x, .str y => .guard (decide (x.length + y.length ≤ line)) (.pure (.str (x ++ y)))
  | .add, .tup x, .tup y => .guard (decide (x.length + y.length ≤ line)) (.pure (.tup (x ++ y)))
  | .add, .ref a, .ref b => fun s => match s.g a, s.g b with
    | some (.lst x), some (.lst y) => M.guard (decide (x.length + y.length ≤ line)) (M.new (.lst (x ++ y))) s
    | _, _ => .bad
  | .sub, .int i, .int j => .pure (.int (i - j))
  | .mul, .int i, .int j => .guard (inRange i || inRange j) (.pure (.int (i * j)))
  | .mul, .ref a, .int k => fun s => match s.g a with
    | some (.lst x) => M.guard (decide (k < 1000) && decide (x.length * k.toNat ≤ line) && decide (-1000 < k)) (M.new (.lst (List.replicate k.toNat x).flatten)) s
    | _ => .bad
  | .mod, .int i, .int j => .guard (decide (j ≠ 0)) (.pure (.int (i.fmod j)))
  | .fdiv, .int i, .int j => .guard (decide (j ≠ 0) && decide (j.natAbs < 1073741824)) (.pure (.int (i.fdiv j)))
  | .pow, .int i, .int j => .guard (decide (0 ≤ j) && decide ((Builtin.Int.intBits i : Int) * j ≤ 2 ^ 27)) (.pure (.int (i ^ j.toNat)))
  | _, _, _ => .bad

/-- two scalars that == tells apart as data -/
def scalA : AV → AV → Bool
  | .non, .non => true | .non, .int _ => true | .int _, .non => true | .non, .bl _ => true | .bl _, .non => true | .non, .str _ => true | .str _, .non => true
  | .int _, .int _ => true | .bl _, .bl _ => true | .str _, .str _ => true
  | .int _, .str _ => true | .str _, .int _ => true | .bl _, .str _ => true | .str _, .bl _ => true
  | _, _ => false
def scalEq : AV → AV → Bool
  | .int i, .int j => decide (i = j)
  | .str x, .str y => decide (x = y)
  | .bl b, .bl c => decide (b = c)
  | .non, .non => true
  | _, _ => false
/-- == of two values, by their data -/
def eqA (x y : AV) : M Bool := fun s => match scalA x y with
  | true => .ok (scalEq x y) s
  | false => match rd s 60 x, rd s 60 y with
    | some d, some e => M.guard (SeqAt.shaped d && SeqAt.shaped e) (.pure (PyData.eqv d e)) s
    | _, _ => .bad
def opC : COp → AV → AV → M Bool
  | .eq, x, y => eqA x y
  | .ne, x, y => .bind (eqA x y) fun b => .pure (!b)
  | .lt, .int i, .int j => .pure (decide (i < j))
  | .le, .int i, .int j => .pure (decide (i ≤ j))
  | .gt, .int i, .int j => .pure (decide (j < i))
  | .ge, .int i, .int j => .pure (decide (j ≤ i))
  | .isn, x, .non => .pure (match x with | .non => true | _ => false)
  | .notn, x, .non => .pure (match x with | .non => false | _ => true)
  | _, _, _ => .bad

/-- truth -/
def truA : AV → M Bool
  | .non => .pure false
  | .bl b => .pure b
  | .int i => .pure (i != 0)
  | .str x => .guard (decide (x.length ≤ line)) (.pure ((x.length : Int) != 0))
  | .tup xs => .pure (!xs.isEmpty)
  | .ref a => fun s => match s.g a with
    | some (.lst xs) => .ok (!xs.isEmpty) s
    | some (.flst xs) => .ok (!xs.isEmpty) s
    | _ => .bad

/-! ### subscripts -/
/-- what a dict has for a key -/
def valA : List (L2.Key × AV) → L2.Key → Option AV
  | [], _ => none
  | p :: r, k => if p.1 = k then some p.2 else valA r k
def ixA : AV → AV → M AV
  | .tup xs, .int i => .opt (L2.atI xs i)
  | .str x, .int i => .guard (decide (x.length ≤ line)) (.opt ((L2.atI x.cps.toList i).map fun c => .str ⟨#[c]⟩))
  | .ref a, .int i => fun s => match s.g a with
    | some (.lst xs) => M.opt (L2.atI xs i) s
    | some (.flst xs) => M.opt (L2.atI xs i) s
    | _ => .bad
  | .ref a, .str x => fun s => match s.g a with
    | some (.dic kvs) => M.opt (valA kvs (Sum.inr x)) s
    | _ => .bad
  | _, _ => .bad
/-- xs[lo:hi] -/
def cutA {α : Type} (xs : List α) (lo hi : Option Int) : List α := (xs.drop (HT.sIx xs.length 0 lo)).take (HT.sIx xs.length xs.length hi - HT.sIx xs.length 0 lo)
def boundA : AV → M (Option Int)
  | .int i => .pure (some i)
  | _ => .bad
def slA (x : AV) (l h : Option Int) : M AV := fun s => match x with
    | .ref a => match s.g a with
      | some (.lst xs) => M.new (.lst (cutA xs l h)) s
      | some (.flst xs) => M.new (.lst (cutA xs l h)) s
      | _ => .bad
    | _ => .bad

/-! ### types -/
inductive Ty where | int | bool | str | list | tuple | dict | verr | cls (c : Nat)
/-- the classes: which are kinds of which (a row a class: those of which it is one); exceptions or not; made without a field -/
structure CI where
  name : String
  sup : List Nat
  exc : Bool
  bare : Bool := false
/-- what kind of thing a value is -/
inductive Tag where | non | bl | int | str | lst | tup | dic | cls (c : Nat)
def tagA (s : St) : AV → Option Tag
  | .non => some .non
  | .bl _ => some .bl
  | .int _ => some .int
  | .str _ => some .str
  | .tup _ => some .tup
  | .ref a => match s.g a with
    | some (.lst _) => some .lst
    | some (.flst _) => some .lst
    | some (.dic _) => some .dic
    | some (.exc c _) => some (.cls c)
    | some (.exn c) => some (.cls c)
    | some (.ins c _) => some (.cls c)
    | none => none
def isT (cl : List CI) : Tag → Ty → Bool
  | .int, .int => true | .bl, .int => true | .bl, .bool => true | .str, .str => true | .lst, .list => true | .tup, .tuple => true | .dic, .dict => true
  | .cls c, .verr => match cl[c]? with | some i => i.exc | none => false
  | .cls c, .cls d => match cl[c]? with | some i => decide (d ∈ i.sup) | none => false
  | _, _ => false

/-! ### built-in functions -/
inductive Bi where | len | sum | max2 | min2 | int | all | list | repr
def asInts : List AV → Option (List Int)
  | [] => some []
  | .int i :: r => (asInts r).map (i :: ·)
  | _ => none
def asBools : List AV → Option (List Bool)
  | [] => some []
  | .bl b :: r => (asBools r).map (b :: ·)
  | _ => none
def lstOf (s : St) : AV → Option (List AV)
  | .ref a => match s.g a with
    | some (.lst xs) => some xs
    | some (.flst xs) => some xs
    | _ => none
  | _ => none
/-- data for repr: dicts with ints and texts as keys, too -/
def rdk : L2.Key → PyData
  | .inl i => .int i
  | .inr x => .str x
def rdx (s : St) : Nat → AV → Option PyData
  | 0, _ => none
  | n + 1, v => match v with
    | .non => some .none
    | .bl b => some (.bool b)
    | .int i => some (.int i)
    | .str x => some (.str x)
    | .tup xs => (mapO (rdx s n) xs).map .tuple
    | .ref a => match s.g a with
      | some (.lst xs) => (mapO (rdx s n) xs).map .list
      | some (.flst xs) => (mapO (rdx s n) xs).map .list
      | some (.dic kvs) => (mapO (fun p : L2.Key × AV => (rdx s n p.2).map fun d => (rdk p.1, d)) kvs).map .dict
      | _ => none
def biA : Bi → List AV → M AV
  | .len, [.str x] => .guard (decide (x.length ≤ line)) (.pure (.int x.length))
  | .len, [.tup xs] => .pure (.int xs.length)
  | .len, [.ref a] => fun s => match lstOf s (.ref a) with
    | some xs => .ok (.int xs.length) s
    | none => .bad
  | .sum, [.ref a] => fun s => match (lstOf s (.ref a)).bind asInts with
    | some ns => .ok (.int ns.sum) s
    | none => .bad
  | .max2, [.int m, .int n] => .pure (.int (if n > m then n else m))
  | .min2, [.int m, .int n] => .pure (.int (if n < m then n else m))
  | .int, [.int i] => .pure (.int i)
  | .int, [.bl b] => .pure (.int (if b then 1 else 0))
  | .all, [.ref a] => fun s => match (lstOf s (.ref a)).bind asBools with
    | some bs => .ok (.bl (bs.all id)) s
    | none => .bad
  | .list, [.ref a] => fun s => match lstOf s (.ref a) with
    | some xs => M.new (.lst xs) s
    | none => .bad
  | .list, [.tup xs] => M.new (.lst xs)
  | .repr, [.non] => .pure (.str (PySem.Str.ofString "None"))
  | .repr, [.bl b] => .pure (.str (if b then PySem.Str.ofString "True" else PySem.Str.ofString "False"))
  | .repr, [.int i] => .guard (decide (i.natAbs.log2 < 1920)) (.pure (.str (toString i)))
  | .repr, [.str x] => .guard (decide ((reprText x).length ≤ line)) (.pure (.str (reprText x)))
  | .repr, [v] => fun s => match rdx s 20 v with
    | some d => M.guard (d.showable && (decide (d.shown.length ≤ line) && decide (d.depth ≤ 60))) (.pure (.str d.shown)) s
    | none => .bad
  | _, _ => .bad

/-! ### methods of built-in types -/
inductive Me where | append | insert | join | bitlen
def asStrs : List AV → Option (List Str)
  | [] => some []
  | .str x :: r => (asStrs r).map (x :: ·)
  | _ => none
def meA : Me → AV → List AV → M AV
  | .append, .ref a, [v] => fun s => match s.g a with
    | some (.lst xs) => M.guard (decide (xs.length < line)) (fun s => .ok .non (s.set a (.lst (xs ++ [v])))) s
    | _ => .bad
  | .insert, .ref a, [.int i, v] => fun s => match s.g a with
    | some (.lst xs) => M.guard (decide (xs.length < line) && (decide (0 ≤ i) && decide (i < 2 ^ 63))) (fun s => .ok .non (s.set a (.lst (xs.take i.toNat ++ [v] ++ xs.drop i.toNat)))) s
    | _ => .bad
  | .bitlen, .int i, [] => .pure (.int (Builtin.Int.intBits i))
  | .join, .str z, [.ref a] => fun s => match (lstOf s (.ref a)).bind asStrs with
    | some xs => M.guard (decide ((xs.map Str.length).sum + xs.length * z.length ≤ line)) (.pure (.str (Txt.join z xs))) s
    | none => .bad
  | _, _, _ => .bad

/-- the receiver, looked at ahead of the arguments -/
def meK : Me → AV → M Unit
  | .append, .ref a => fun s => match lstOf s (.ref a) with
    | some _ => .ok () s
    | none => .bad
  | .insert, .ref a => fun s => match lstOf s (.ref a) with
    | some _ => .ok () s
    | none => .bad
  | .join, .str _ => .pure ()
  | .bitlen, .int _ => .pure ()
  | _, _ => .bad

/-! ### expressions -/
inductive E where
  | var (i : Nat)
  | non | bl (b : Bool) | int (i : Int) | str (x : Str)
  | gc (x : String) (v : AV)
  | tup (es : E) | lst (es : E)
  | dic (es : E)
  | nil | cons (a r : E)
  | bin (o : BOp) (a b : E) | neg (a : E)
  | cmp (o : COp) (a b : E)
  | and (a b : E) | or (a b : E) | not (a : E) | ite (c a b : E)
  | idx (a i : E) | sl (a lo hi : E)
  | call (f : Nat) (args : E)
  | mk (c : Nat) (args : E) (kw : Bool)
  | fld (a : E) (x : Str)
  | isin (a : E) (ts : List Ty) (many : Bool)
  | bi (b : Bi) (args : E)
  | meth (m : Me) (o : E) (args : E)
  | lc (el : E) (t : List Nat) (it : E) (c : E)
  | rng (a : E)

/-- what a loop walks -/
inductive AI where
  | lst (a : Nat) | fix (xs : List AV) | rng (lo : Int) (n : Nat)
def AI.item (s : St) : AI → Nat → Option (Option AV)
  | .lst a, i => (lstOf s (.ref a)).map fun xs => xs[i]?
  | .fix xs, i => some xs[i]?
  | .rng lo n, i => some (if i < n then some (.int (lo + i)) else none)
def AI.len (s : St) : AI → Option Nat
  | .lst a => (lstOf s (.ref a)).map List.length
  | .fix xs => some xs.length
  | .rng _ n => some n

abbrev Env := List (Option AV)
abbrev Calls := Nat → List AV → M AV

def tupPut (t : List Nat) (v : AV) (env : Env) : Option Env := match v with
  | .tup xs => if xs.length = t.length then some ((t.zip xs).foldl (fun e p => e.set p.1 (some p.2)) env) else none
  | _ => none
def putT (t : List Nat) (v : AV) (env : Env) : Option Env := match t with
  | [i] => some (env.set i (some v))
  | t => tupPut t v env

/-- a comprehension's turns: what is kept -/
def lcL (el : AV → M (Option AV)) (ai : AI) : Nat → Nat → M (List AV)
  | 0, i => fun s => match ai.item s i with
    | some none => .ok [] s
    | _ => .bad
  | n + 1, i => fun s => match ai.item s i with
    | some none => .ok [] s
    | some (some x) => M.bind (el x) (fun r => M.bind (lcL el ai n (i + 1)) fun rs => .pure (r.toList ++ rs)) s
    | none => .bad

def blA : AV → M Bool
  | .bl b => .pure b
  | _ => .bad
def tru (v : M AV) : M Bool := M.bind v truA

/-- a dict's entries -/
def keyA : AV → Option L2.Key
  | .int i => some (.inl i)
  | .str x => some (.inr x)
  | _ => none
def pairsA : List AV → Option (List (L2.Key × AV))
  | [] => some []
  | k :: v :: r => match keyA k, pairsA r with
    | some k, some ps => some ((k, v) :: ps)
    | _, _ => none
  | _ => none
def putD (kvs : List (L2.Key × AV)) (k : L2.Key) (v : AV) : List (L2.Key × AV) :=
  if (kvs.any fun kv => decide (kv.1 = k)) = true then kvs.map (fun kv => if kv.1 = k then (kv.1, v) else kv) else kvs ++ [(k, v)]
def mergeA (kvs more : List (L2.Key × AV)) : List (L2.Key × AV) := more.foldl (fun acc kv => putD acc kv.1 kv.2) kvs
def dicP : AV → List AV → M AV
  | .ref a, vs => fun s => match s.g a with
    | some (.dic []) => match pairsA vs with
      | some kvs => M.guard (decide (kvs.length ≤ 15)) (fun s => .ok (.ref a) (s.set a (.dic (mergeA [] kvs)))) s
      | none => .bad
    | _ => .bad
  | _, _ => .bad
/-- an exception object -/
def mkA (cl : List CI) (c : Nat) (vs : List AV) : M AV := fun s => match cl[c]? with
  | some i => match i.exc, i.bare, vs with
    | true, false, [v] => M.new (.exc c v) s
    | true, false, [] => M.new (.exc c .non) s
    | true, true, [] => M.new (.exn c) s
    | _, _, _ => .bad
  | none => .bad
def fldA (x : Str) : AV → M AV
  | .ref a => fun s => match s.g a with
    | some (.exc _ v) => M.guard (decide (x = "value")) (.pure v) s
    | some (.ins _ fs) => M.opt (fs.lookup x) s
    | _ => .bad
  | _ => .bad
def isinA (cl : List CI) (ts : List Ty) (v : AV) : M AV := fun s => match tagA s v with
  | some g => .ok (.bl (ts.any (isT cl g))) s
  | none => .bad


/-- what an expression computes: as a value, a test, a list of arguments, a part of a slice, what is walked -/
structure D where
  v : Env → M AV
  t : Env → M Bool
  l : Env → M (List AV)
  o : Env → M (Option Int)
  i : Env → M AI
def iterV (x : AV) : M AI := match x with
  | .ref a => fun s => match lstOf s (.ref a) with
    | some _ => .ok (.lst a) s
    | none => .bad
  | .tup xs => .pure (.fix xs)
  | _ => .bad
def D.of (v : Env → M AV) : D := ⟨v, fun env => tru (v env), fun _ => .bad, fun _ => .bad, fun env => .bind (v env) iterV⟩
def negA : AV → M AV
  | .int i => .pure (.int (-i))
  | _ => .bad
def rngA : AV → M AI
  | .int j => .guard (decide (-(2 ^ 62) ≤ j) && decide (j < 2 ^ 62)) (.pure (.rng 0 j.toNat))
  | _ => .bad
def iteM {α : Type} (k : Bool) (a b : M α) : M α := match k with
  | true => a
  | false => b
/-- the slots of a comprehension's own names forgotten -/
def wipeE (env : Env) : List Nat → Env
  | [] => env
  | v :: vs => (wipeE env vs).set v none
def lcE (el : Env → M AV) (t : List Nat) (c : Env → M Bool) (env : Env) (x : AV) : M (Option AV) := match putT t x (wipeE env t) with
  | some env' => .bind (c env') fun k => iteM k (.bind (el env') fun v => .pure (some v)) (.pure none)
  | none => .bad
def lcA (el : Env → M AV) (t : List Nat) (c : Env → M Bool) (env : Env) (ai : AI) : M AV := fun s => match ai.len s with
  | some n => M.bind (lcL (lcE el t c env) ai n 0) (fun vs => .guard (decide (vs.length ≤ line)) (.new (.lst vs))) s
  | none => .bad

section
variable (cl : List CI) (C : Calls)
def den : E → D
  | .var i => .of fun env => .opt (env[i]?.join)
  | .non => .of fun _ => .pure .non
  | .bl b => .of fun _ => .pure (.bl b)
  | .int i => .of fun _ => .pure (.int i)
  | .str x => .of fun _ => .pure (.str x)
  | .gc _ v => .of fun _ => .pure v
  | .tup es => .of fun env => .bind ((den es).l env) fun vs => .guard (decide (vs.length ≤ line)) (.pure (.tup vs))
  | .lst es => .of fun env => .bind ((den es).l env) fun vs => .guard (decide (vs.length ≤ line)) (.new (.lst vs))
  | .dic es => .of fun env => .bind (M.new (.dic [])) fun r => .bind ((den es).l env) fun vs => dicP r vs
  | .bin o a b => .of fun env => .bind ((den a).v env) fun x => .bind ((den b).v env) fun y => opB o x y
  | .neg a => .of fun env => .bind ((den a).v env) negA
  | .cmp o a b => .of fun env => .bind ((den a).v env) fun x => .bind ((den b).v env) fun y => .bind (opC o x y) fun r => .pure (.bl r)
  | .and a b => { D.of (fun env => .bind ((den a).v env) fun x => .bind (blA x) fun k => iteM k ((den b).v env) (.pure (.bl false))) with
      t := fun env => .bind ((den a).t env) fun k => iteM k ((den b).t env) (.pure false) }
  | .or a b => { D.of (fun env => .bind ((den a).v env) fun x => .bind (blA x) fun k => iteM k (.pure (.bl true)) ((den b).v env)) with
      t := fun env => .bind ((den a).t env) fun k => iteM k (.pure true) ((den b).t env) }
  | .not a => { D.of (fun env => .bind ((den a).v env) fun x => .bind (blA x) fun k => .pure (.bl (!k))) with
      t := fun env => .bind ((den a).t env) fun k => .pure (!k) }
  | .ite c a b => { D.of (fun env => .bind ((den c).t env) fun k => iteM k ((den a).v env) ((den b).v env)) with t := fun _ => .bad }
  | .idx a i => .of fun env => .bind ((den a).v env) fun x => .bind ((den i).v env) fun y => ixA x y
  | .sl a lo hi => .of fun env => .bind ((den a).v env) fun x => .bind ((den lo).o env) fun l => .bind ((den hi).o env) fun h => slA x l h
  | .call f args => .of fun env => .bind ((den args).l env) fun vs => C f vs
  | .mk c args _ => .of fun env => .bind ((den args).l env) fun vs => mkA cl c vs
  | .fld a x => .of fun env => .bind ((den a).v env) fun v => fldA x v
  | .isin a tys _ => .of fun env => .bind ((den a).v env) fun v => isinA cl tys v
  | .bi b args => .of fun env => .bind ((den args).l env) fun vs => biA b vs
  | .meth m o args => .of fun env => .bind ((den o).v env) fun x => .bind (meK m x) fun _ => .bind ((den args).l env) fun vs => meA m x vs
  | .lc el t it c => .of fun env => .bind ((den it).i env) fun ai => lcA (den el).v t (den c).t env ai
  | .nil => ⟨fun _ => .bad, fun _ => .pure true, fun _ => .pure [], fun _ => .pure none, fun _ => .bad⟩
  | .cons a r => ⟨fun _ => .bad, fun _ => .bad, fun env => .bind ((den a).v env) fun x => .bind ((den r).l env) fun xs => .pure (x :: xs), fun env => .bind ((den a).v env) boundA, fun _ => .bad⟩
  | .rng a => { D.of (fun _ => .bad) with i := fun env => .bind ((den a).v env) rngA }
end

/-! ### statements -/
inductive S where
  | nil
  | asg (t : List Nat) (e : E) (r : S)
  | par (t : List Nat) (es : E) (r : S)
  | sub (o i e : E) (r : S)
  | exp (e : E) (r : S)
  | ite (c : E) (a b r : S)
  | for_ (t : List Nat) (it : E) (b r : S)
  | ret (e : E)
  | retn
  | brk | cnt
  | pas (r : S)
/-- several names at once, from the last one -/
def putP (t : List Nat) (vs : List AV) (env : Env) : Option Env :=
  if vs.length = t.length then some ((t.reverse.zip vs.reverse).foldl (fun e p => e.set p.1 (some p.2)) env) else none
inductive Fl where
  | nx (env : Env) | rt (v : AV) | bk (env : Env) | ct (env : Env)
def setA : AV → AV → AV → M Unit
  | .ref a, .int i, v => fun s => match s.g a with
    | some (.lst xs) => match L2.ixN xs.length i with
      | some j => .ok () (s.set a (.lst (xs.set j v)))
      | none => .bad
    | _ => .bad
  | .ref a, .str x, v => fun s => match s.g a with
    | some (.dic kvs) => M.guard (decide (kvs.length < line)) (fun s => .ok () (s.set a (.dic (putD kvs (Sum.inr x) v)))) s
    | _ => .bad
  | _, _, _ => .bad
def forL (body : AV → Env → M Fl) (ai : AI) : Nat → Nat → Env → M Fl
  | 0, i, env => fun s => match ai.item s i with
    | some none => .ok (.nx env) s
    | _ => .bad
  | n + 1, i, env => fun s => match ai.item s i with
    | some none => .ok (.nx env) s
    | some (some x) => M.bind (body x env) (fun f => match f with
      | .nx e => forL body ai n (i + 1) e
      | .ct e => forL body ai n (i + 1) e
      | .bk e => .pure (.nx e)
      | .rt v => .pure (.rt v)) s
    | none => .bad
def thenL (f : Fl) (k : Env → M Fl) : M Fl := match f with
  | .nx e => k e
  | .rt v => .pure (.rt v)
  | .bk e => .pure (.bk e)
  | .ct e => .pure (.ct e)
def forA (body : AV → Env → M Fl) (ai : AI) (env : Env) : M Fl := fun s => match ai.len s with
  | some n => forL body ai n 0 env s
  | none => .bad
section
variable (cl : List CI) (C : Calls)
def exec : S → Env → M Fl
  | .nil, env => .pure (.nx env)
  | .asg t e r, env => .bind ((den cl C e).v env) fun v => match putT t v env with
    | some env' => exec r env'
    | none => .bad
  | .par t es r, env => .bind ((den cl C es).l env) fun vs => match putP t vs env with
    | some env' => exec r env'
    | none => .bad
  | .sub o i e r, env => .bind ((den cl C e).v env) fun v => .bind ((den cl C o).v env) fun x => .bind ((den cl C i).v env) fun k => .bind (setA x k v) fun _ => exec r env
  | .exp e r, env => .bind ((den cl C e).v env) fun _ => exec r env
  | .ite c a b r, env => .bind ((den cl C c).t env) fun k => .bind (iteM k (exec a env) (exec b env)) fun f => thenL f (exec r)
  | .for_ t it b r, env => .bind ((den cl C it).i env) fun ai => .bind (forA (fun x e => match putT t x e with
      | some e' => exec b e'
      | none => .bad) ai env) fun f => thenL f (exec r)
  | .ret e, env => .bind ((den cl C e).v env) fun v => .pure (.rt v)
  | .retn, _ => .pure (.rt .non)
  | .brk, env => .pure (.bk env)
  | .cnt, env => .pure (.ct env)
  | .pas r, env => exec r env
end
/-- a def: its name, how many parameters, the names by slots (parameters first), its body -/
structure DI where
  name : String
  np : Nat
  names : List String
  body : S
def DI.env (d : DI) (vs : List AV) : Env := vs.map some ++ List.replicate (d.names.length - vs.length) none
def endF : Fl → M AV
  | .rt v => .pure v
  | .nx _ => .pure .non
  | _ => .bad
/-- calls, so deep -/
def callN (cl : List CI) (ds : List DI) : Nat → Calls
  | 0 => fun _ _ => .bad
  | n + 1 => fun f vs => match ds[f]? with
    | some d => .guard (decide (vs.length = d.np)) (.bind (exec cl (callN cl ds n) d.body (d.env vs)) endF)
    | none => .bad
end MP
end
section
set_option Elab.async false
set_option linter.all false
set_option maxRecDepth 100000
/-! MpB: the machine's store held by the layer's heap. -/
namespace MP
open PySem PySem.Spec PyProof.Rows L2

mutual
inductive Rv (K : PySem.W.Frag) (φ : Nat → Addr) (n : Nat) (H : Hp) : AV → V → Prop where
  | non : Rv K φ n H .non .non
  | bl (b : Bool) : Rv K φ n H (.bl b) (.bl b)
  | int (i : Int) : Rv K φ n H (.int i) (.int i)
  | str (x : Str) : Rv K φ n H (.str x) (.str x)
  | ref {a : Nat} (h : a < n) : Rv K φ n H (.ref a) (.ref (φ a))
  | tup {xs : List AV} {p : Addr} {vs : List V} (h : SqT K H p vs) (r : Rvs K φ n H xs vs) : Rv K φ n H (.tup xs) (.ref p)
inductive Rvs (K : PySem.W.Frag) (φ : Nat → Addr) (n : Nat) (H : Hp) : List AV → List V → Prop where
  | nil : Rvs K φ n H [] []
  | cons {x : AV} {v : V} {xs : List AV} {vs : List V} (h : Rv K φ n H x v) (r : Rvs K φ n H xs vs) : Rvs K φ n H (x :: xs) (v :: vs)
end
/-- entries of a dict -/
inductive Rks (K : PySem.W.Frag) (φ : Nat → Addr) (n : Nat) (H : Hp) : List (Key × AV) → List (Key × V) → Prop where
  | nil : Rks K φ n H [] []
  | cons {k : Key} {x : AV} {v : V} {xs : List (Key × AV)} {vs : List (Key × V)} (h : Rv K φ n H x v) (r : Rks K φ n H xs vs) : Rks K φ n H ((k, x) :: xs) ((k, v) :: vs)

/-- where the class stands -/
def cAd (K : PySem.W.Frag) (cl : List CI) (c : Nat) : Addr := match cl[c]? with
  | some i => He.ga K (Str.ofString i.name)
  | none => 0
def ObjS (K : PySem.W.Frag) (cl : List CI) (φ : Nat → Addr) (n : Nat) (H : Hp) (p : Addr) : AO → Prop
  | .lst xs => ∃ vs, H p = some (.lst vs) ∧ Rvs K φ n H xs vs
  | .flst xs => ∃ o vs, H p = some (.frz o (.lst vs)) ∧ Rvs K φ n H xs vs
  | .dic kvs => ∃ ks, H p = some (.dK ks) ∧ Rks K φ n H kvs ks
  | .exc c v => (∃ i, cl[c]? = some i ∧ i.exc = true) ∧ ∃ d x, H p = some (exo p (cAd K cl c) (some d)) ∧ H d = some (exd d [("value", x)]) ∧ (∀ a, a < n → φ a ≠ d) ∧ Rv K φ n H v x
  | .exn c => (∃ i, cl[c]? = some i ∧ i.exc = true) ∧ H p = some (exo p (cAd K cl c) none)
  | .ins _ _ => False

structure Sim (K : PySem.W.Frag) (cl : List CI) (φ : Nat → Addr) (st : St) (H : Hp) : Prop where
  obj : ∀ a o, st.g a = some o → ObjS K cl φ st.n H (φ a) o
  lt : ∀ a o, st.g a = some o → a < st.n
  all : ∀ a, a < st.n → ∃ o, st.g a = some o
  inj : ∀ a b, a < st.n → b < st.n → φ a = φ b → a = b

structure Grow (φ : Nat → Addr) (n : Nat) (H : Hp) (φ' : Nat → Addr) (n' : Nat) (H' : Hp) : Prop where
  le : n ≤ n'
  same : ∀ a, a < n → φ' a = φ a
  keep : ∀ b o, H b = some o → (∀ a, a < n → φ a ≠ b) → H' b = some o
  fresh : ∀ a, n ≤ a → a < n' → H (φ' a) = none
  mono : ∀ b, H' b = none → H b = none

section
variable {K : PySem.W.Frag} {cl : List CI} {φ φ' φ'' : Nat → Addr} {n n' n'' : Nat} {H H' H'' : Hp} {st st' : St}
theorem Grow.refl : Grow φ n H φ n H := ⟨Nat.le_refl _, fun _ _ => rfl, fun _ _ h _ => h, fun a h1 h2 => absurd h1 (by omega), fun _ h => h⟩
theorem Grow.trans (a : Grow φ n H φ' n' H') (b : Grow φ' n' H' φ'' n'' H'') : Grow φ n H φ'' n'' H'' where
  le := Nat.le_trans a.le b.le
  same := fun x hx => (b.same x (Nat.lt_of_lt_of_le hx a.le)).trans (a.same x hx)
  keep := fun x o h hn => b.keep x o (a.keep x o h hn) fun c hc => by
    by_cases q : c < n
    · rw [a.same c q]; exact hn c q
    · intro e
      have z := a.fresh c (by omega) hc
      rw [e, h] at z; cases z
  fresh := fun x h1 h2 => by
    by_cases q : x < n'
    · rw [b.same x q]; exact a.fresh x h1 q
    · exact a.mono _ (b.fresh x (by omega) h2)
  mono := fun x h => a.mono x (b.mono x h)

theorem Sim.notTup (S : Sim K cl φ st H) {p : Addr} {vs : List V} (h : Rd H p (.tup vs)) : ∀ a, a < st.n → φ a ≠ p := fun a ha e => by
  obtain ⟨o, ho⟩ := S.all a ha
  have q := S.obj a o ho
  rw [e] at q
  cases o with
  | lst xs => obtain ⟨vs, q, _⟩ := q; rcases h with h | ⟨_, h⟩ <;> rw [q] at h <;> cases h
  | flst xs => obtain ⟨o, vs, q, _⟩ := q; rcases h with h | ⟨_, h⟩ <;> rw [q] at h <;> cases h
  | dic kvs => obtain ⟨ks, q, _⟩ := q; rcases h with h | ⟨_, h⟩ <;> rw [q] at h <;> cases h
  | exc c v =>
    obtain ⟨_, d, x, q, _⟩ := q
    rcases h with h | ⟨o, h⟩
    · exact exo_tup (Option.some.inj (q.symm.trans h))
    · exact exo_frz (Option.some.inj (q.symm.trans h))
  | exn c =>
    obtain ⟨_, q⟩ := q
    rcases h with h | ⟨o, h⟩
    · exact exo_tup (Option.some.inj (q.symm.trans h))
    · exact exo_frz (Option.some.inj (q.symm.trans h))
  | ins c fs => exact q.elim
theorem Sim.tup (S : Sim K cl φ st H) (g : Grow φ st.n H φ' n' H') {p : Addr} {vs : List V} (h : SqT K H p vs) : SqT K H' p vs := by
  rcases h with h | h
  · have q := S.notTup h
    rcases h with h | ⟨o, h⟩
    · exact .inl (.inl (g.keep _ _ h q))
    · exact .inl (.inr ⟨o, g.keep _ _ h q⟩)
  · exact .inr h

mutual
theorem Rv.grow (S : Sim K cl φ st H) (g : Grow φ st.n H φ' n' H') : ∀ {x : AV} {v : V}, Rv K φ st.n H x v → Rv K φ' n' H' x v
  | _, _, .non => .non
  | _, _, .bl b => .bl b
  | _, _, .int i => .int i
  | _, _, .str x => .str x
  | _, _, .ref (a := a) h => by rw [← g.same a h]; exact .ref (Nat.lt_of_lt_of_le h g.le)
  | _, _, .tup h r => .tup (S.tup g h) (Rvs.grow S g r)
theorem Rvs.grow (S : Sim K cl φ st H) (g : Grow φ st.n H φ' n' H') : ∀ {xs : List AV} {vs : List V}, Rvs K φ st.n H xs vs → Rvs K φ' n' H' xs vs
  | _, _, .nil => .nil
  | _, _, .cons h r => .cons (Rv.grow S g h) (Rvs.grow S g r)
end
theorem Rks.grow (S : Sim K cl φ st H) (g : Grow φ st.n H φ' n' H') : ∀ {xs : List (Key × AV)} {vs : List (Key × V)}, Rks K φ st.n H xs vs → Rks K φ' n' H' xs vs
  | _, _, .nil => .nil
  | _, _, .cons h r => .cons (h.grow S g) (Rks.grow S g r)
theorem Rvs.length : ∀ {xs : List AV} {vs : List V}, Rvs K φ n H xs vs → xs.length = vs.length
  | _, _, .nil => rfl
  | _, _, .cons _ r => congrArg Nat.succ (Rvs.length r)
theorem Rvs.append : ∀ {xs ys : List AV} {vs ws : List V}, Rvs K φ n H xs vs → Rvs K φ n H ys ws → Rvs K φ n H (xs ++ ys) (vs ++ ws)
  | _, _, _, _, .nil, s => s
  | _, _, _, _, .cons h r, s => .cons h (Rvs.append r s)
theorem Rvs.get : ∀ {xs : List AV} {vs : List V} {i : Nat} {x : AV}, Rvs K φ n H xs vs → xs[i]? = some x → ∃ v, vs[i]? = some v ∧ Rv K φ n H x v
  | _, _, _, _, .nil, e => by simp at e
  | _, _, 0, _, .cons h _, e => by simp at e; subst e; exact ⟨_, rfl, h⟩
  | _, _, i + 1, _, .cons _ r, e => by
    obtain ⟨v, h1, h2⟩ := Rvs.get (i := i) r (by simpa using e)
    exact ⟨v, by simpa using h1, h2⟩
theorem Rvs.getR : ∀ {xs : List AV} {vs : List V} {i : Nat} {v : V}, Rvs K φ n H xs vs → vs[i]? = some v → ∃ x, xs[i]? = some x ∧ Rv K φ n H x v
  | _, _, _, _, .nil, e => by simp at e
  | _, _, 0, _, .cons h _, e => by simp at e; subst e; exact ⟨_, rfl, h⟩
  | _, _, i + 1, _, .cons _ r, e => by
    obtain ⟨v, h1, h2⟩ := Rvs.getR (i := i) r (by simpa using e)
    exact ⟨v, by simpa using h1, h2⟩
theorem Rvs.set {x : AV} {v : V} (q : Rv K φ n H x v) : ∀ {xs : List AV} {vs : List V} (i : Nat), Rvs K φ n H xs vs → Rvs K φ n H (xs.set i x) (vs.set i v)
  | _, _, _, .nil => .nil
  | _, _, 0, .cons _ r => .cons q r
  | _, _, i + 1, .cons h r => .cons h (Rvs.set q i r)
theorem Rvs.take : ∀ {xs : List AV} {vs : List V} (i : Nat), Rvs K φ n H xs vs → Rvs K φ n H (xs.take i) (vs.take i)
  | _, _, 0, _ => by simpa using Rvs.nil
  | _, _, _ + 1, .nil => .nil
  | _, _, i + 1, .cons h r => .cons h (Rvs.take i r)
theorem Rvs.drop : ∀ {xs : List AV} {vs : List V} (i : Nat), Rvs K φ n H xs vs → Rvs K φ n H (xs.drop i) (vs.drop i)
  | _, _, 0, r => r
  | _, _, _ + 1, .nil => .nil
  | _, _, i + 1, .cons _ r => Rvs.drop i r

/-! ### new objects, changed objects -/
/-- an object's description in a grown world -/
theorem ObjS.grow (S : Sim K cl φ st H) (g : Grow φ st.n H φ' n' H') {p : Addr} {o : AO} (h : ObjS K cl φ st.n H p o) (hp : H' p = H p) (hd : ∀ a, st.n ≤ a → a < n' → ∀ d : Addr, H d ≠ none → φ' a ≠ d) : ObjS K cl φ' n' H' p o := by
  cases o with
  | lst xs => obtain ⟨vs, q, r⟩ := h; exact ⟨vs, hp.trans q, r.grow S g⟩
  | flst xs => obtain ⟨o, vs, q, r⟩ := h; exact ⟨o, vs, hp.trans q, r.grow S g⟩
  | dic kvs => obtain ⟨ks, q, r⟩ := h; exact ⟨ks, hp.trans q, r.grow S g⟩
  | exc c v =>
    obtain ⟨hc, d, x, q, qd, nd, r⟩ := h
    refine ⟨hc, d, x, hp.trans q, g.keep _ _ qd nd, fun a ha => ?_, r.grow S g⟩
    by_cases z : a < st.n
    · rw [g.same a z]; exact nd a z
    · exact hd a (by omega) ha d (by rw [qd]; simp)
  | exn c => obtain ⟨hc, q⟩ := h; exact ⟨hc, hp.trans q⟩
  | ins c fs => exact h.elim

def ext (φ : Nat → Addr) (n : Nat) (p : Addr) : Nat → Addr := fun a => if a = n then p else φ a
theorem ext_old {p : Addr} {a : Nat} (h : a < n) : ext φ n p a = φ a := by unfold ext; rw [if_neg (by omega)]
theorem ext_new {p : Addr} : ext φ n p n = p := by unfold ext; rw [if_pos rfl]
theorem grow_new {p : Addr} {o : HO} (hp : H p = none) : Grow φ n H (ext φ n p) (n + 1) (upd H p o) where
  le := Nat.le_succ _
  same := fun a h => ext_old h
  keep := fun b u h _ => by rw [upd_ne (ne_of_none h hp)]; exact h
  fresh := fun a h1 h2 => by
    have e : a = n := by omega
    subst e; rw [ext_new]; exact hp
  mono := fun b h => by
    by_cases e : b = p
    · subst e; exact hp
    · rw [upd_ne e] at h; exact h
/-- a new tuple, not the store's -/
theorem grow_tup {p : Addr} {o : HO} (hp : H p = none) : Grow φ n H φ n (upd H p o) where
  le := Nat.le_refl _
  same := fun a h => rfl
  keep := fun b u h _ => by rw [upd_ne (ne_of_none h hp)]; exact h
  fresh := fun a h1 h2 => absurd h1 (by omega)
  mono := fun b h => by
    by_cases e : b = p
    · subst e; exact hp
    · rw [upd_ne e] at h; exact h
theorem Sim.there (S : Sim K cl φ st H) {a : Nat} (ha : a < st.n) : H (φ a) ≠ none := by
  obtain ⟨o, ho⟩ := S.all a ha
  have q := S.obj a o ho
  cases o with
  | lst xs => obtain ⟨vs, q, _⟩ := q; rw [q]; simp
  | flst xs => obtain ⟨o, vs, q, _⟩ := q; rw [q]; simp
  | dic kvs => obtain ⟨ks, q, _⟩ := q; rw [q]; simp
  | exc c v => obtain ⟨_, d, x, q, _⟩ := q; rw [q]; simp
  | exn c => obtain ⟨_, q⟩ := q; rw [q]; simp
  | ins c fs => exact q.elim
theorem Sim.ne_new (S : Sim K cl φ st H) {p : Addr} (hp : H p = none) {a : Nat} (ha : a < st.n) : φ a ≠ p := fun e => S.there ha (by rw [e]; exact hp)
/-- the heap grew, the store did not -/
theorem Sim.grown (S : Sim K cl φ st H) (g : Grow φ st.n H φ st.n H') (hk : ∀ a, a < st.n → H' (φ a) = H (φ a)) : Sim K cl φ st H' where
  obj := fun a o h => (S.obj a o h).grow S g (hk a (S.lt a o h)) fun b h1 h2 => absurd h1 (by omega)
  lt := S.lt
  all := S.all
  inj := S.inj
theorem Sim.laid (S : Sim K cl φ st H) {p : Addr} {o : HO} (hp : H p = none) : Sim K cl φ st (upd H p o) :=
  S.grown (grow_tup hp) fun a ha => by rw [upd_ne (S.ne_new hp ha)]
/-- a new object of the store -/
theorem Sim.new (S : Sim K cl φ st H) {p : Addr} {o : HO} {ao : AO} (hp : H p = none) (hn : ObjS K cl (ext φ st.n p) (st.n + 1) (upd H p o) p ao) : Sim K cl (ext φ st.n p) (st.push ao) (upd H p o) where
  obj := fun a u h => by
    show ObjS K cl (ext φ st.n p) (st.n + 1) (upd H p o) (ext φ st.n p a) u
    have h' : (if a = st.n then some ao else st.g a) = some u := h
    by_cases e : a = st.n
    · subst e
      rw [if_pos rfl] at h'
      cases h'
      rw [ext_new]; exact hn
    · rw [if_neg e] at h'
      have lt := S.lt a u h'
      rw [ext_old lt]
      refine (S.obj a u h').grow S (grow_new hp) (by rw [upd_ne (S.ne_new hp lt)]) fun b h1 h2 d hd => ?_
      have eb : b = st.n := by omega
      subst eb
      rw [ext_new]
      intro z; subst z; exact hd hp
  lt := fun a u h => by
    have h' : (if a = st.n then some ao else st.g a) = some u := h
    show a < st.n + 1
    by_cases e : a = st.n
    · omega
    · rw [if_neg e] at h'; have := S.lt a u h'; omega
  all := fun a h => by
    have h' : a < st.n + 1 := h
    by_cases e : a = st.n
    · exact ⟨ao, by show (if a = st.n then some ao else st.g a) = _; rw [if_pos e]⟩
    · obtain ⟨o, q⟩ := S.all a (by omega)
      exact ⟨o, by show (if a = st.n then some ao else st.g a) = _; rw [if_neg e]; exact q⟩
  inj := fun a b ha hb h => by
    have ha' : a < st.n + 1 := ha
    have hb' : b < st.n + 1 := hb
    by_cases e1 : a = st.n
    · by_cases e2 : b = st.n
      · omega
      · rw [e1, ext_new, ext_old (by omega)] at h
        exact absurd h.symm (S.ne_new hp (by omega))
    · by_cases e2 : b = st.n
      · rw [e2, ext_new, ext_old (by omega)] at h
        exact absurd h (S.ne_new hp (by omega))
      · rw [ext_old (by omega), ext_old (by omega)] at h
        exact S.inj a b (by omega) (by omega) h
/-- an object of the store is changed -/
theorem grow_set (S : Sim K cl φ st H) {a : Nat} {o : HO} (ha : a < st.n) : Grow φ st.n H φ st.n (upd H (φ a) o) where
  le := Nat.le_refl _
  same := fun _ _ => rfl
  keep := fun b u h hn => by rw [upd_ne fun e => hn a ha e.symm]; exact h
  fresh := fun b h1 h2 => absurd h1 (by omega)
  mono := fun b h => by
    by_cases e : b = φ a
    · subst e; rw [upd_same] at h; cases h
    · rw [upd_ne e] at h; exact h
theorem Sim.set (S : Sim K cl φ st H) {a : Nat} {o : HO} {ao : AO} (ha : a < st.n) (hn : ObjS K cl φ st.n (upd H (φ a) o) (φ a) ao) : Sim K cl φ (st.set a ao) (upd H (φ a) o) where
  obj := fun b u h => by
    show ObjS K cl φ st.n (upd H (φ a) o) (φ b) u
    have h' : (if b = a then some ao else st.g b) = some u := h
    by_cases e : b = a
    · subst e
      rw [if_pos rfl] at h'
      cases h'
      exact hn
    · rw [if_neg e] at h'
      have lt := S.lt b u h'
      refine (S.obj b u h').grow S (grow_set S ha) (by rw [upd_ne fun z => e (S.inj b a lt ha z)]) fun c h1 h2 => absurd h1 (by omega)
  lt := fun b u h => by
    have h' : (if b = a then some ao else st.g b) = some u := h
    show b < st.n
    by_cases e : b = a
    · omega
    · rw [if_neg e] at h'; exact S.lt b u h'
  all := fun b h => by
    by_cases e : b = a
    · exact ⟨ao, by show (if b = a then some ao else st.g b) = _; rw [if_pos e]⟩
    · obtain ⟨o, q⟩ := S.all b h
      exact ⟨o, by show (if b = a then some ao else st.g b) = _; rw [if_neg e]; exact q⟩
  inj := S.inj

/-! ### what is wanted of an outcome -/
def Sat {α : Type} (K : PySem.W.Frag) (cl : List CI) (φ : Nat → Addr) (n : Nat) (H : Hp) (o : Out α) (F : α → (Nat → Addr) → St → Hp → Prop) : Prop := match o with
  | .ok v st' => ∀ φ' H', Grow φ n H φ' st'.n H' → Sim K cl φ' st' H' → F v φ' st' H'
  | .bad => False
theorem Sat.bind {α β : Type} {m : M α} {k : α → M β} {F : β → (Nat → Addr) → St → Hp → Prop} (h : Sat K cl φ n H (M.bind m k st) F) :
    Sat K cl φ n H (m st) fun v φ1 st1 H1 => Sat K cl φ1 st1.n H1 (k v st1) fun w φ2 st2 H2 => F w φ2 st2 H2 := by
  unfold M.bind at h
  cases e : m st with
  | bad => rw [e] at h; exact h
  | ok v st1 =>
    rw [e] at h
    replace h : Sat K cl φ n H (k v st1) F := h
    intro φ1 H1 g1 S1
    cases e2 : k v st1 with
    | bad => rw [e2] at h; exact h
    | ok w st2 =>
      rw [e2] at h
      exact fun φ2 H2 g2 S2 => h φ2 H2 (g1.trans g2) S2
theorem Sat.mono {α : Type} {o : Out α} {F G : α → (Nat → Addr) → St → Hp → Prop} (h : Sat K cl φ n H o F) (hq : ∀ v φ' st' H', Grow φ n H φ' st'.n H' → Sim K cl φ' st' H' → F v φ' st' H' → G v φ' st' H') : Sat K cl φ n H o G := by
  cases o with
  | bad => exact h
  | ok v st' => exact fun φ' H' g S => hq v φ' st' H' g S (h φ' H' g S)
theorem Sat.here {α : Type} {v : α} {F : α → (Nat → Addr) → St → Hp → Prop} (S : Sim K cl φ st H) (h : Sat K cl φ st.n H (.ok v st) F) : F v φ st H := h φ H Grow.refl S
theorem Sat.guard {α : Type} {b : Bool} {m : M α} {F : α → (Nat → Addr) → St → Hp → Prop} (h : Sat K cl φ n H (M.guard b m st) F) : b = true ∧ Sat K cl φ n H (m st) F := by
  cases b with
  | true => exact ⟨rfl, h⟩
  | false => exact h.elim
end
end MP
end
section
set_option Elab.async false
set_option linter.all false
set_option maxRecDepth 100000
set_option maxHeartbeats 1000000
/-! MpC: readings by the machine; operators. -/
namespace MP
open PySem PySem.Spec PyProof.Rows L2

/-- the names' values -/
def Renv (K : PySem.W.Frag) (φ : Nat → Addr) (n : Nat) (H : Hp) (env : Env) (σ : L2.St) : Prop :=
  env.length = σ.length ∧ ∀ (i : Nat) (v : AV), env[i]? = some (some v) → ∃ x, σ[i]? = some (some x) ∧ Rv K φ n H v x

section
variable {K : PySem.W.Frag} {cl : List CI} {C : Calls} {φ φ' : Nat → Addr} {n n' : Nat} {H H' : Hp} {st st' : MP.St} {env : Env} {σ : L2.St}
theorem Renv.grow (R : Renv K φ st.n H env σ) (S : Sim K cl φ st H) (g : Grow φ st.n H φ' n' H') : Renv K φ' n' H' env σ :=
  ⟨R.1, fun i v h => by
    obtain ⟨x, h1, h2⟩ := R.2 i v h
    exact ⟨x, h1, h2.grow S g⟩⟩
theorem Renv.set (R : Renv K φ n H env σ) {i : Nat} {v : AV} {x : V} (r : Rv K φ n H v x) : Renv K φ n H (env.set i (some v)) (σ.set i (some x)) := by
  refine ⟨by rw [List.length_set, List.length_set]; exact R.1, fun j w h => ?_⟩
  by_cases e : i = j
  · subst e
    by_cases hl : i < env.length
    · rw [List.getElem?_set_self hl] at h
      cases h
      exact ⟨x, List.getElem?_set_self (by rw [← R.1]; exact hl), r⟩
    · rw [List.getElem?_eq_none (by simpa using hl)] at h; cases h
  · rw [List.getElem?_set_ne e] at h ⊢
    exact R.2 j w h

/-- what an expression's reading asks -/
def TEv (K : PySem.W.Frag) (cl : List CI) (C : Calls) (m : E) : TE := fun σ H Q => ∃ φ st env, Sim K cl φ st H ∧ Renv K φ st.n H env σ ∧
  Sat K cl φ st.n H ((den cl C m).v env st) fun v φ' st' H' => ∀ x, Rv K φ' st'.n H' v x → Q x H'
def TTv (K : PySem.W.Frag) (cl : List CI) (C : Calls) (m : E) : TT := fun σ H Q => ∃ φ st env, Sim K cl φ st H ∧ Renv K φ st.n H env σ ∧
  Sat K cl φ st.n H ((den cl C m).t env st) fun b φ' st' H' => Q b H'
def TAv (K : PySem.W.Frag) (cl : List CI) (C : Calls) (m : E) : TA := fun σ H Q => ∃ φ st env, Sim K cl φ st H ∧ Renv K φ st.n H env σ ∧
  Sat K cl φ st.n H ((den cl C m).l env st) fun vs φ' st' H' => ∀ xs, Rvs K φ' st'.n H' vs xs → Q xs H'
/-- an optional int (a part of a slice) -/
def TOv (K : PySem.W.Frag) (cl : List CI) (C : Calls) (m : E) : L2.St → Hp → (Option Int → Hp → Prop) → Prop := fun σ H Q => ∃ φ st env, Sim K cl φ st H ∧ Renv K φ st.n H env σ ∧
  Sat K cl φ st.n H ((den cl C m).o env st) fun i φ' st' H' => Q i H'

theorem TEv.mono {m : E} {Q Q' : VK} (h : TEv K cl C m σ H Q) (hq : ∀ x H', Q x H' → Q' x H') : TEv K cl C m σ H Q' := by
  obtain ⟨φ, st, env, S, R, h⟩ := h
  exact ⟨φ, st, env, S, R, h.mono fun v φ' st' H' _ _ q x r => hq x H' (q x r)⟩
theorem TTv.mono {m : E} {Q Q' : Bool → Hp → Prop} (h : TTv K cl C m σ H Q) (hq : ∀ x H', Q x H' → Q' x H') : TTv K cl C m σ H Q' := by
  obtain ⟨φ, st, env, S, R, h⟩ := h
  exact ⟨φ, st, env, S, R, h.mono fun v φ' st' H' _ _ q => hq v H' q⟩
theorem TAv.mono {m : E} {Q Q' : List V → Hp → Prop} (h : TAv K cl C m σ H Q) (hq : ∀ x H', Q x H' → Q' x H') : TAv K cl C m σ H Q' := by
  obtain ⟨φ, st, env, S, R, h⟩ := h
  exact ⟨φ, st, env, S, R, h.mono fun v φ' st' H' _ _ q x r => hq x H' (q x r)⟩

/-- behind a first part -/
theorem TEv.step {α : Type} {m : E} {k : AV → M α} {F : α → (Nat → Addr) → MP.St → Hp → Prop} (S : Sim K cl φ st H) (R : Renv K φ st.n H env σ) (h : Sat K cl φ st.n H (M.bind ((den cl C m).v env) k st) F) :
    TEv K cl C m σ H fun x H1 => ∃ φ1 st1 v, Grow φ st.n H φ1 st1.n H1 ∧ Sim K cl φ1 st1 H1 ∧ Rv K φ1 st1.n H1 v x ∧ Renv K φ1 st1.n H1 env σ ∧ Sat K cl φ1 st1.n H1 (k v st1) F :=
  ⟨φ, st, env, S, R, (Sat.bind h).mono fun v φ1 st1 H1 g S1 q x r => ⟨φ1, st1, v, g, S1, r, R.grow S g, q⟩⟩
theorem TTv.step {α : Type} {m : E} {k : Bool → M α} {F : α → (Nat → Addr) → MP.St → Hp → Prop} (S : Sim K cl φ st H) (R : Renv K φ st.n H env σ) (h : Sat K cl φ st.n H (M.bind ((den cl C m).t env) k st) F) :
    TTv K cl C m σ H fun b H1 => ∃ φ1 st1, Grow φ st.n H φ1 st1.n H1 ∧ Sim K cl φ1 st1 H1 ∧ Renv K φ1 st1.n H1 env σ ∧ Sat K cl φ1 st1.n H1 (k b st1) F :=
  ⟨φ, st, env, S, R, (Sat.bind h).mono fun v φ1 st1 H1 g S1 q => ⟨φ1, st1, g, S1, R.grow S g, q⟩⟩
theorem TAv.step {α : Type} {m : E} {k : List AV → M α} {F : α → (Nat → Addr) → MP.St → Hp → Prop} (S : Sim K cl φ st H) (R : Renv K φ st.n H env σ) (h : Sat K cl φ st.n H (M.bind ((den cl C m).l env) k st) F) :
    TAv K cl C m σ H fun xs H1 => ∃ φ1 st1 vs, Grow φ st.n H φ1 st1.n H1 ∧ Sim K cl φ1 st1 H1 ∧ Rvs K φ1 st1.n H1 vs xs ∧ Renv K φ1 st1.n H1 env σ ∧ Sat K cl φ1 st1.n H1 (k vs st1) F :=
  ⟨φ, st, env, S, R, (Sat.bind h).mono fun v φ1 st1 H1 g S1 q x r => ⟨φ1, st1, v, g, S1, r, R.grow S g, q⟩⟩
end

section
variable {X : Cx} {e : Expr} {t t' : TE}
theorem PE.imp {e : Expr} {t t' : TE} (h : PE X e t) (hq : ∀ σ H Q, t' σ H Q → t σ H Q) : PE X e t' := ⟨fun pins s σ H Q I q => h.run pins s σ H Q I (hq σ H Q q)⟩
theorem PT.imp {e : Expr} {t t' : TT} (h : PT X e t) (hq : ∀ σ H Q, t' σ H Q → t σ H Q) : PT X e t' := ⟨fun pins s σ H Q I q => h.run pins s σ H Q I (hq σ H Q q)⟩
theorem PW.imp {e : Expr} {t t' : TT} (h : PW X e t) (hq : ∀ σ H Q, t' σ H Q → t σ H Q) : PW X e t' := ⟨fun w pins s σ H Q I q => h.run w pins s σ H Q I (hq σ H Q q)⟩
theorem PA.imp {es : List Expr} {t t' : TA} (h : PA X es t) (hq : ∀ σ H Q, t' σ H Q → t σ H Q) : PA X es t' := ⟨fun pos pins s σ H Q I q => h.run pos pins s σ H Q I (hq σ H Q q)⟩
end

/-! ### two-place operations -/
/-- a two-place operation on the machine's values -/
def ROp (K : PySem.W.Frag) (cl : List CI) (f : AV → AV → M AV) : R2 := fun x y H Q => ∃ φ st a b, Sim K cl φ st H ∧ Rv K φ st.n H a x ∧ Rv K φ st.n H b y ∧
  Sat K cl φ st.n H (f a b st) fun v φ' st' H' => ∀ z, Rv K φ' st'.n H' v z → Q z H'
/-- a one-place one -/
def RUn (K : PySem.W.Frag) (cl : List CI) (f : AV → M AV) : V → Hp → VK → Prop := fun x H Q => ∃ φ st a, Sim K cl φ st H ∧ Rv K φ st.n H a x ∧
  Sat K cl φ st.n H (f a st) fun v φ' st' H' => ∀ z, Rv K φ' st'.n H' v z → Q z H'
/-- a call's -/
def RCall (K : PySem.W.Frag) (cl : List CI) (f : List AV → M AV) : List V → Hp → VK → Prop := fun xs H Q => ∃ φ st vs, Sim K cl φ st H ∧ Rvs K φ st.n H vs xs ∧
  Sat K cl φ st.n H (f vs st) fun v φ' st' H' => ∀ z, Rv K φ' st'.n H' v z → Q z H'

section
variable {K : PySem.W.Frag} {cl : List CI} {C : Calls} {φ φ' : Nat → Addr} {n n' : Nat} {H H' : Hp} {st st' : MP.St} {env : Env} {σ : L2.St}
theorem tev_two {f : AV → AV → M AV} {m a b : E} (hm : ∀ env, (den cl C m).v env = .bind ((den cl C a).v env) fun x => .bind ((den cl C b).v env) fun y => f x y) {Q : VK} (h : TEv K cl C m σ H Q) :
    tOp (ROp K cl f) (TEv K cl C a) (TEv K cl C b) σ H Q := by
  obtain ⟨φ, st, env, S, R, h⟩ := h
  rw [hm] at h
  refine (TEv.step S R h).mono fun x H1 ⟨φ1, st1, v, g1, S1, rx, R1, h1⟩ => ?_
  exact (TEv.step S1 R1 h1).mono fun y H2 ⟨φ2, st2, u, g2, S2, ry, R2, h2⟩ => ⟨φ2, st2, v, u, S2, rx.grow S1 g2, ry, h2⟩
theorem tev_one {f : AV → M AV} {m a : E} (hm : ∀ env, (den cl C m).v env = .bind ((den cl C a).v env) fun x => f x) {Q : VK} (h : TEv K cl C m σ H Q) :
    TEv K cl C a σ H fun x H1 => RUn K cl f x H1 Q := by
  obtain ⟨φ, st, env, S, R, h⟩ := h
  rw [hm] at h
  exact (TEv.step S R h).mono fun x H1 ⟨φ1, st1, v, g1, S1, rx, R1, h1⟩ => ⟨φ1, st1, v, S1, rx, h1⟩
theorem tev_call {f : List AV → M AV} {m a : E} (hm : ∀ env, (den cl C m).v env = .bind ((den cl C a).l env) fun x => f x) {Q : VK} (h : TEv K cl C m σ H Q) :
    TAv K cl C a σ H fun xs H1 => RCall K cl f xs H1 Q := by
  obtain ⟨φ, st, env, S, R, h⟩ := h
  rw [hm] at h
  exact (TAv.step S R h).mono fun x H1 ⟨φ1, st1, v, g1, S1, rx, R1, h1⟩ => ⟨φ1, st1, v, S1, rx, h1⟩

/-- the list that a value is -/
theorem Sim.lst (S : Sim K cl φ st H) {a : Nat} {xs : List AV} (e : st.g a = some (.lst xs)) : ∃ vs, H (φ a) = some (.lst vs) ∧ Rvs K φ st.n H xs vs := S.obj a _ e
theorem Sim.seq (S : Sim K cl φ st H) {a : Nat} {xs : List AV} (e : lstOf st (.ref a) = some xs) : ∃ vs, SqL K H (φ a) vs ∧ Rvs K φ st.n H xs vs := by
  replace e : (match st.g a with
    | some (.lst xs) => some xs
    | some (.flst xs) => some xs
    | _ => none) = some xs := e
  cases q : st.g a with
  | none => rw [q] at e; cases e
  | some o =>
    rw [q] at e
    cases o with
    | lst ys =>
      cases e
      obtain ⟨vs, h1, h2⟩ := S.obj a _ q
      exact ⟨vs, .inl (.inl h1), h2⟩
    | flst ys =>
      cases e
      obtain ⟨o, vs, h1, h2⟩ := S.obj a _ q
      exact ⟨vs, .inl (.inr ⟨o, h1⟩), h2⟩
    | _ => cases e
/-- what the layer gives as a new list is the machine's new list -/
theorem sat_new {xs : List AV} {vs : List V} {F : AV → (Nat → Addr) → MP.St → Hp → Prop} (S : Sim K cl φ st H) (r : Rvs K φ st.n H xs vs) (h : Sat K cl φ st.n H (M.new (.lst xs) st) F) {p : Addr} (hp : H p = none) :
    ∃ φ' st', Grow φ st.n H φ' st'.n (upd H p (.lst vs)) ∧ Sim K cl φ' st' (upd H p (.lst vs)) ∧ Rv K φ' st'.n (upd H p (.lst vs)) (.ref st.n) (.ref p) ∧ F (.ref st.n) φ' st' (upd H p (.lst vs)) := by
  have g := grow_new (φ := φ) (n := st.n) (o := .lst vs) hp
  have S' : Sim K cl (ext φ st.n p) (st.push (.lst xs)) (upd H p (.lst vs)) := S.new hp ⟨vs, upd_same, r.grow S g⟩
  refine ⟨ext φ st.n p, st.push (.lst xs), g, S', ?_, h _ _ g S'⟩
  have z : Rv K (ext φ st.n p) (st.n + 1) (upd H p (.lst vs)) (.ref st.n) (.ref (ext φ st.n p st.n)) := .ref (Nat.lt_succ_self _)
  rw [ext_new] at z
  exact z
theorem q_new {xs : List AV} {vs : List V} {Q : VK} (S : Sim K cl φ st H) (r : Rvs K φ st.n H xs vs) (h : Sat K cl φ st.n H (M.new (.lst xs) st) fun v φ' st' H' => ∀ z, Rv K φ' st'.n H' v z → Q z H') (p : Addr) (hp : H p = none) : Q (.ref p) (upd H p (.lst vs)) := by
  obtain ⟨φ', st', g, S', rz, q⟩ := sat_new S r h hp
  exact q _ rz
/-- a new tuple -/
theorem q_tup {xs : List AV} {vs : List V} {Q : VK} (S : Sim K cl φ st H) (r : Rvs K φ st.n H xs vs) (h : Sat K cl φ st.n H (.ok (.tup xs) st) fun v φ' st' H' => ∀ z, Rv K φ' st'.n H' v z → Q z H') (p : Addr) (hp : H p = none) : Q (.ref p) (upd H p (.tup vs)) :=
  h φ _ (grow_tup hp) (S.laid hp) _ (.tup (.inl (.inl upd_same)) (r.grow S (grow_tup hp)))
theorem q_pure {v : AV} {z : V} {Q : VK} (S : Sim K cl φ st H) (r : Rv K φ st.n H v z) (h : Sat K cl φ st.n H (.ok v st) fun v φ' st' H' => ∀ z, Rv K φ' st'.n H' v z → Q z H') : Q z H := h φ H Grow.refl S z r
theorem line_eq : sizeLine = line := sizeLine_eq
end

section
variable {X : Cx} {cl : List CI}
theorem dec_range {i : Int} (h : inRange i = true) : -(2 ^ 64) < i ∧ i < 2 ^ 64 := by
  unfold inRange at h
  rw [Bool.and_eq_true] at h
  exact ⟨of_decide_eq_true h.1, of_decide_eq_true h.2⟩
theorem opb_add : OpR X (binaryOp .Add) (ROp X.K cl (opB .add)) := by
  intro pins s σ H x y v u Q I r1 r2 h
  obtain ⟨φ, st, a, b, S, ra, rb, h⟩ := h
  cases ra with
  | int i =>
    cases rb with
    | int j => exact op_add pins s σ H _ _ v u Q I r1 r2 ⟨i, j, rfl, rfl, q_pure S (.int _) h⟩
    | _ => exact h.elim
  | str i =>
    cases rb with
    | str j =>
      obtain ⟨hg, h⟩ := Sat.guard h
      have hg := of_decide_eq_true hg
      exact op_add_str pins s σ H _ _ v u Q I r1 r2 ⟨i, j, rfl, rfl, by rw [line_eq]; exact hg, q_pure S (.str _) h⟩
    | _ => exact h.elim
  | @tup xs p vs hp rs =>
    cases rb with
    | @tup ys q ws hq rs' =>
      obtain ⟨hg, h⟩ := Sat.guard h
      have hg : xs.length + ys.length ≤ line := of_decide_eq_true hg
      rw [rs.length, rs'.length, ← line_eq] at hg
      refine op_catA pins s σ H _ _ v u Q I r1 r2 ?_
      refine ⟨p, q, vs, ws, rfl, rfl, hp, hq, hg, fun e => ?_, fun e1 e2 => ?_, fun e1 e2 => q_tup S (rs.append rs') h⟩
      · subst e
        cases rs
        exact q_pure S (.tup hq rs') h
      · subst e2
        cases rs'
        have h' : Sat X.K cl φ st.n H (.ok (.tup (xs ++ [])) st) fun v φ' st' H' => ∀ z, Rv X.K φ' st'.n H' v z → Q z H' := h
        rw [List.append_nil] at h'
        exact q_pure S (.tup hp rs) h'
    | _ => exact h.elim
  | @ref a la =>
    cases rb with
    | @ref b lb =>
      have h' : Sat X.K cl φ st.n H (match st.g a, st.g b with
        | some (.lst x), some (.lst y) => M.guard (decide (x.length + y.length ≤ line)) (M.new (.lst (x ++ y))) st
        | _, _ => .bad) fun v φ' st' H' => ∀ z, Rv X.K φ' st'.n H' v z → Q z H' := h
      split at h'
      · rename_i x y ea eb
        obtain ⟨hg, h'⟩ := Sat.guard h'
        have hg := of_decide_eq_true hg
        obtain ⟨vs, h1, q1⟩ := S.lst ea
        obtain ⟨ws, h2, q2⟩ := S.lst eb
        rw [q1.length, q2.length, ← line_eq] at hg
        exact op_cat pins s σ H _ _ v u Q I r1 r2 ⟨_, _, vs, ws, rfl, rfl, h1, h2, hg, q_new S (q1.append q2) h'⟩
      · exact h'.elim
    | _ => exact h.elim
  | _ => exact h.elim
theorem opb_sub : OpR X (binaryOp .Sub) (ROp X.K cl (opB .sub)) := by
  intro pins s σ H x y v u Q I r1 r2 h
  obtain ⟨φ, st, a, b, S, ra, rb, h⟩ := h
  cases ra with
  | int i =>
    cases rb with
    | int j => exact op_sub pins s σ H _ _ v u Q I r1 r2 ⟨i, j, rfl, rfl, q_pure S (.int _) h⟩
    | _ => exact h.elim
  | _ => exact h.elim
theorem opb_mod : OpR X (binaryOp .Mod) (ROp X.K cl (opB .mod)) := by
  intro pins s σ H x y v u Q I r1 r2 h
  obtain ⟨φ, st, a, b, S, ra, rb, h⟩ := h
  cases ra with
  | int i =>
    cases rb with
    | int j =>
      obtain ⟨hg, h⟩ := Sat.guard h
      have hg := of_decide_eq_true hg
      exact op_modN pins s σ H _ _ v u Q I r1 r2 ⟨i, j, rfl, rfl, hg, q_pure S (.int _) h⟩
    | _ => exact h.elim
  | _ => exact h.elim
theorem opb_fdiv : OpR X (binaryOp .FloorDiv) (ROp X.K cl (opB .fdiv)) := by
  intro pins s σ H x y v u Q I r1 r2 h
  obtain ⟨φ, st, a, b, S, ra, rb, h⟩ := h
  cases ra with
  | int i =>
    cases rb with
    | int j =>
      obtain ⟨hg, h⟩ := Sat.guard h
      rw [Bool.and_eq_true] at hg
      exact op_fdivN pins s σ H _ _ v u Q I r1 r2 ⟨i, j, rfl, rfl, ⟨of_decide_eq_true hg.1, of_decide_eq_true hg.2⟩, q_pure S (.int _) h⟩
    | _ => exact h.elim
  | _ => exact h.elim
theorem opb_pow : OpR X (binaryOp .Pow) (ROp X.K cl (opB .pow)) := by
  intro pins s σ H x y v u Q I r1 r2 h
  obtain ⟨φ, st, a, b, S, ra, rb, h⟩ := h
  cases ra with
  | int i =>
    cases rb with
    | int j =>
      obtain ⟨hg, h⟩ := Sat.guard h
      rw [Bool.and_eq_true] at hg
      have z := opI (X := X) (f := binaryOp .Pow) (C := fun i j => 0 ≤ j ∧ (Builtin.Int.intBits i : Int) * j ≤ 2 ^ 27) (g := fun i j => i ^ j.toNat) fun i j _ _ _ _ _ hc q => pow_int hc.1 hc.2 q
      exact z pins s σ H _ _ v u Q I r1 r2 ⟨i, j, rfl, rfl, ⟨of_decide_eq_true hg.1, of_decide_eq_true hg.2⟩, q_pure S (.int _) h⟩
    | _ => exact h.elim
  | _ => exact h.elim
theorem Rvs.rep {K : PySem.W.Frag} {φ : Nat → Addr} {n : Nat} {H : Hp} {xs : List AV} {vs : List V} (h : Rvs K φ n H xs vs) : ∀ k : Nat, Rvs K φ n H (List.replicate k xs).flatten (List.replicate k vs).flatten
  | 0 => .nil
  | k + 1 => by
    rw [List.replicate_succ, List.replicate_succ, List.flatten_cons, List.flatten_cons]
    exact Rvs.append h (Rvs.rep h k)
theorem opb_mul : OpR X (binaryOp .Mult) (ROp X.K cl (opB .mul)) := by
  intro pins s σ H x y v u Q I r1 r2 h
  obtain ⟨φ, st, a, b, S, ra, rb, h⟩ := h
  cases ra with
  | int i =>
    cases rb with
    | int j =>
      obtain ⟨hg, h⟩ := Sat.guard h
      rw [Bool.or_eq_true] at hg
      exact op_mul pins s σ H _ _ v u Q I r1 r2 ⟨i, j, rfl, rfl, hg.elim (fun z => .inl (dec_range z)) (fun z => .inr (dec_range z)), q_pure S (.int _) h⟩
    | _ => exact h.elim
  | @ref a la =>
    cases rb with
    | int k =>
      have h' : Sat X.K cl φ st.n H (match st.g a with
        | some (.lst x) => M.guard (decide (k < 1000) && decide (x.length * k.toNat ≤ line) && decide (-1000 < k)) (M.new (.lst (List.replicate k.toNat x).flatten)) st
        | _ => .bad) fun v φ' st' H' => ∀ z, Rv X.K φ' st'.n H' v z → Q z H' := h
      split at h'
      · rename_i x ea
        obtain ⟨hg, h'⟩ := Sat.guard h'
        rw [Bool.and_eq_true, Bool.and_eq_true] at hg
        obtain ⟨⟨g1, g2⟩, g3⟩ := hg
        have g1 := of_decide_eq_true g1
        have g2 := of_decide_eq_true g2
        have g3 := of_decide_eq_true g3
        obtain ⟨vs, h1, q1⟩ := S.lst ea
        rw [q1.length, ← line_eq] at g2
        exact op_rep pins s σ H _ _ v u Q I r1 r2 ⟨_, k, vs, rfl, rfl, h1, by omega, by omega, g2, q_new S (q1.rep _) h'⟩
      · exact h'.elim
    | _ => exact h.elim
  | _ => exact h.elim
def bop : BOp → Operator
  | .add => .Add | .sub => .Sub | .mul => .Mult | .mod => .Mod | .fdiv => .FloorDiv | .pow => .Pow
theorem opb_ok (o : BOp) : OpR X (binaryOp (bop o)) (ROp X.K cl (opB o)) := by
  cases o with
  | add => exact opb_add
  | sub => exact opb_sub
  | mul => exact opb_mul
  | mod => exact opb_mod
  | fdiv => exact opb_fdiv
  | pow => exact opb_pow
end
end MP
end
section
set_option Elab.async false
set_option linter.all false
set_option maxRecDepth 100000
set_option maxHeartbeats 1000000
/-! MpD: comparisons, truth, subscripts, built-in functions. -/
namespace MP
open PySem PySem.Spec PyProof.Rows L2

section
variable {K : PySem.W.Frag} {cl : List CI} {C : Calls} {φ φ' : Nat → Addr} {n n' : Nat} {H H' : Hp} {st st' : MP.St} {env : Env} {σ : L2.St}
/-- the data that is read off -/
theorem all_of_mapO {f : AV → Option PyData} (hf : ∀ v d x, f v = some d → Rv K φ n H v x → Dp K H x d) : ∀ {xs : List AV} {ds : List PyData} {vs : List V}, mapO f xs = some ds → Rvs K φ n H xs vs → DpAll K H vs ds
  | [], _, _, e, r => by
    cases e; cases r; exact .nil
  | x :: xs, ds, _, e, r => by
    cases r with
    | cons r1 r2 =>
      unfold mapO at e
      cases e1 : f x with
      | none => rw [e1] at e; cases e
      | some d =>
        cases e2 : mapO f xs with
        | none => rw [e1, e2] at e; cases e
        | some es =>
          rw [e1, e2] at e
          cases e
          exact .cons (hf _ _ _ e1 r1) (all_of_mapO hf e2 r2)
theorem rd_dp (S : Sim K cl φ st H) : ∀ (k : Nat) (v : AV) (d : PyData) (x : V), rd st k v = some d → Rv K φ st.n H v x → Dp K H x d
  | 0, _, _, _, e, _ => by cases e
  | k + 1, v, d, x, e, r => by
    cases r with
    | non => cases e; exact .non
    | bl b => cases e; exact .bl b
    | int i => cases e; exact .int i
    | str y => cases e; exact .str y
    | @tup xs p vs hp rs =>
      obtain ⟨ds, e1, rfl⟩ := Option.map_eq_some_iff.mp (show (mapO (rd st k) xs).map PyData.tuple = some d from e)
      exact .tup hp (all_of_mapO (rd_dp S k) e1 rs)
    | @ref a ha =>
      replace e : (match st.g a with
        | some (.lst xs) => (mapO (rd st k) xs).map .list
        | some (.flst xs) => (mapO (rd st k) xs).map .list
        | _ => none) = some d := e
      split at e
      · rename_i xs ea
        obtain ⟨ds, e1, rfl⟩ := Option.map_eq_some_iff.mp e
        obtain ⟨vs, h1, h2⟩ := S.obj a _ ea
        exact .lst (.inl (.inl h1)) (all_of_mapO (rd_dp S k) e1 h2)
      · rename_i xs ea
        obtain ⟨ds, e1, rfl⟩ := Option.map_eq_some_iff.mp e
        obtain ⟨o, vs, h1, h2⟩ := S.obj a _ ea
        exact .lst (.inl (.inr ⟨o, h1⟩)) (all_of_mapO (rd_dp S k) e1 h2)
      · cases e
theorem scal_of {a b : AV} {x y : V} (ra : Rv K φ n H a x) (rb : Rv K φ n H b y) (h : scalA a b = true) : scal x y = true ∧ decide (x = y) = scalEq a b := by
  cases ra <;> cases rb <;> first
    | exact absurd h Bool.false_ne_true
    | exact ⟨rfl, by first | rfl | simp [scalEq]⟩
end

section
variable {X : Cx} {cl : List CI}
theorem sat_bl {φ : Nat → Addr} {st : MP.St} {H : Hp} {m : M Bool} {F : AV → (Nat → Addr) → MP.St → Hp → Prop} (h : Sat X.K cl φ st.n H (M.bind m (fun r => M.pure (.bl r)) st) F) :
    Sat X.K cl φ st.n H (m st) fun b φ' st' H' => F (.bl b) φ' st' H' :=
  (Sat.bind h).mono fun v φ1 st1 H1 g S1 q => Sat.here S1 q
def cop : COp → CmpOp
  | .eq => .Eq | .ne => .NotEq | .lt => .Lt | .le => .LtE | .gt => .Gt | .ge => .GtE | .isn => .Is | .notn => .IsNot | .inn => .In | .notin => .NotIn
abbrev cmpF (o : COp) (x y : AV) : M AV := .bind (opC o x y) fun r => .pure (.bl r)
theorem opc_eq (hu : X.A.units + 64 < cLine) : OpR X (compareOp .Eq) (ROp X.K cl (cmpF .eq)) := by
  intro pins s σ H x y v u Q I r1 r2 h
  obtain ⟨φ, st, a, b, S, ra, rb, h⟩ := h
  replace h := sat_bl h
  replace h : Sat X.K cl φ st.n H (match scalA a b with
    | true => .ok (scalEq a b) st
    | false => match rd st 60 a, rd st 60 b with
      | some d, some e => M.guard (SeqAt.shaped d && SeqAt.shaped e) (.pure (PyData.eqv d e)) st
      | _, _ => .bad) fun b φ' st' H' => ∀ z, Rv X.K φ' st'.n H' (.bl b) z → Q z H' := h
  cases q : scalA a b with
  | true =>
    rw [q] at h
    obtain ⟨h1, h2⟩ := scal_of ra rb q
    exact op_eq pins s σ H _ _ v u Q I r1 r2 ⟨h1, by rw [h2]; exact (Sat.here S h) _ (.bl _)⟩
  | false =>
    rw [q] at h
    cases e1 : rd st 60 a with
    | none => rw [e1] at h; exact h.elim
    | some d =>
      cases e2 : rd st 60 b with
      | none => rw [e1, e2] at h; exact h.elim
      | some e =>
        rw [e1, e2] at h
        obtain ⟨hg, h⟩ := Sat.guard (h : Sat X.K cl φ st.n H (M.guard (SeqAt.shaped d && SeqAt.shaped e) (.pure (PyData.eqv d e)) st) _)
        rw [Bool.and_eq_true] at hg
        exact op_eqD hu pins s σ H _ _ v u Q I r1 r2 ⟨d, e, rd_dp S 60 _ _ _ e1 ra, rd_dp S 60 _ _ _ e2 rb, hg.1, hg.2, (Sat.here S h) _ (.bl _)⟩
theorem opc_ne (hu : X.A.units + 64 < cLine) : OpR X (compareOp .NotEq) (ROp X.K cl (cmpF .ne)) := by
  intro pins s σ H x y v u Q I r1 r2 h
  obtain ⟨φ, st, a, b, S, ra, rb, h⟩ := h
  replace h := Sat.bind (sat_bl h)
  replace h : Sat X.K cl φ st.n H (match scalA a b with
    | true => .ok (scalEq a b) st
    | false => match rd st 60 a, rd st 60 b with
      | some d, some e => M.guard (SeqAt.shaped d && SeqAt.shaped e) (.pure (PyData.eqv d e)) st
      | _, _ => .bad) fun b φ' st' H' => ∀ z, Rv X.K φ' st'.n H' (.bl (!b)) z → Q z H' := h.mono fun b φ1 st1 H1 g S1 q => Sat.here S1 q
  cases q : scalA a b with
  | true =>
    rw [q] at h
    obtain ⟨h1, h2⟩ := scal_of ra rb q
    exact op_ne pins s σ H _ _ v u Q I r1 r2 ⟨h1, by rw [h2]; exact (Sat.here S h) _ (.bl _)⟩
  | false =>
    rw [q] at h
    cases e1 : rd st 60 a with
    | none => rw [e1] at h; exact h.elim
    | some d =>
      cases e2 : rd st 60 b with
      | none => rw [e1, e2] at h; exact h.elim
      | some e =>
        rw [e1, e2] at h
        obtain ⟨hg, h⟩ := Sat.guard (h : Sat X.K cl φ st.n H (M.guard (SeqAt.shaped d && SeqAt.shaped e) (.pure (PyData.eqv d e)) st) _)
        rw [Bool.and_eq_true] at hg
        exact op_neD hu pins s σ H _ _ v u Q I r1 r2 ⟨d, e, rd_dp S 60 _ _ _ e1 ra, rd_dp S 60 _ _ _ e2 rb, hg.1, hg.2, (Sat.here S h) _ (.bl _)⟩
/-- an order of two ints -/
theorem opc_int {op : CmpOp} {o : COp} {p : Int → Int → Bool} (rule : OpR X (compareOp op) (rI0 fun i j => .bl (p i j))) (ho : ∀ i j, opC o (.int i) (.int j) = .pure (p i j)) (hn : ∀ a b, (∀ i j, ¬ (a = .int i ∧ b = .int j)) → ∀ s, opC o a b s = .bad) :
    OpR X (compareOp op) (ROp X.K cl (cmpF o)) := by
  intro pins s σ H x y v u Q I r1 r2 h
  obtain ⟨φ, st, a, b, S, ra, rb, h⟩ := h
  replace h := sat_bl h
  by_cases z : ∃ i j, a = .int i ∧ b = .int j
  · obtain ⟨i, j, rfl, rfl⟩ := z
    rw [ho] at h
    cases ra
    cases rb
    exact rule pins s σ H _ _ v u Q I r1 r2 ⟨i, j, rfl, rfl, (Sat.here S h) _ (.bl _)⟩
  · rw [hn a b (fun i j q => z ⟨i, j, q⟩)] at h
    exact h.elim
theorem opc_ok (hu : X.A.units + 64 < cLine) (o : COp) (hi : o ≠ .inn ∧ o ≠ .notin) : OpR X (compareOp (cop o)) (ROp X.K cl (cmpF o)) := by
  cases o with
  | eq => exact opc_eq hu
  | ne => exact opc_ne hu
  | lt => exact opc_int (p := fun i j => decide (i < j)) op_lt (fun _ _ => rfl) fun a b hn s => by cases a <;> cases b <;> first | rfl | exact absurd ⟨rfl, rfl⟩ (hn _ _)
  | le => exact opc_int (p := fun i j => decide (i ≤ j)) op_le (fun _ _ => rfl) fun a b hn s => by cases a <;> cases b <;> first | rfl | exact absurd ⟨rfl, rfl⟩ (hn _ _)
  | gt => exact opc_int (p := fun i j => decide (j < i)) op_gt (fun _ _ => rfl) fun a b hn s => by cases a <;> cases b <;> first | rfl | exact absurd ⟨rfl, rfl⟩ (hn _ _)
  | ge => exact opc_int (p := fun i j => decide (j ≤ i)) op_ge (fun _ _ => rfl) fun a b hn s => by cases a <;> cases b <;> first | rfl | exact absurd ⟨rfl, rfl⟩ (hn _ _)
  | isn =>
    intro pins s σ H x y v u Q I r1 r2 h
    obtain ⟨φ, st, a, b, S, ra, rb, h⟩ := h
    replace h := sat_bl h
    cases rb with
    | non =>
      refine op_isN pins s σ H _ _ v u Q I r1 r2 ⟨rfl, ?_⟩
      cases ra <;> exact (Sat.here S h) _ (.bl _)
    | _ => exact h.elim
  | notn =>
    intro pins s σ H x y v u Q I r1 r2 h
    obtain ⟨φ, st, a, b, S, ra, rb, h⟩ := h
    replace h := sat_bl h
    cases rb with
    | non =>
      refine op_notN pins s σ H _ _ v u Q I r1 r2 ⟨rfl, ?_⟩
      cases ra <;> exact (Sat.here S h) _ (.bl _)
    | _ => exact h.elim
  | inn => exact absurd rfl hi.1
  | notin => exact absurd rfl hi.2

/-- truth -/
theorem tru_okM : TruR X (fun x H Q => ∃ φ st a, Sim X.K cl φ st H ∧ Rv X.K φ st.n H a x ∧ Sat X.K cl φ st.n H (truA a st) fun b φ' st' H' => Q b H') := by
  intro pins s σ H x v Q I r h
  obtain ⟨φ, st, a, S, ra, h⟩ := h
  cases ra with
  | non => exact tru_ok pins s σ H _ v Q I r ⟨false, rfl, Sat.here S h⟩
  | bl b => exact tru_ok pins s σ H _ v Q I r ⟨b, rfl, Sat.here S h⟩
  | int i => exact tru_ok pins s σ H _ v Q I r ⟨_, rfl, Sat.here S h⟩
  | str y =>
    obtain ⟨hg, h⟩ := Sat.guard h
    exact tru_ok pins s σ H _ v Q I r ⟨_, ⟨by rw [line_eq]; exact of_decide_eq_true hg, rfl⟩, Sat.here S h⟩
  | @tup xs p vs hp rs =>
    refine tru_ok pins s σ H _ v Q I r ⟨!xs.isEmpty, .inr (.inl ⟨vs, hp, ?_⟩), Sat.here S h⟩
    cases rs <;> rfl
  | @ref a ha =>
    replace h : Sat X.K cl φ st.n H (match st.g a with
      | some (.lst xs) => .ok (!xs.isEmpty) st
      | some (.flst xs) => .ok (!xs.isEmpty) st
      | _ => .bad) fun b φ' st' H' => Q b H' := h
    split at h
    · rename_i xs ea
      obtain ⟨vs, h1, h2⟩ := S.obj a _ ea
      refine tru_ok pins s σ H _ v Q I r ⟨!xs.isEmpty, .inl ⟨vs, .inl (.inl h1), ?_⟩, Sat.here S h⟩
      cases h2 <;> rfl
    · rename_i xs ea
      obtain ⟨o, vs, h1, h2⟩ := S.obj a _ ea
      refine tru_ok pins s σ H _ v Q I r ⟨!xs.isEmpty, .inl ⟨vs, .inl (.inr ⟨o, h1⟩), ?_⟩, Sat.here S h⟩
      cases h2 <;> rfl
    · exact h.elim

/-! ### subscripts -/
theorem ix_dict (hu : X.A.units + 1 < cLine) : IxR X (fun x y H Q => ∃ a v, x = .ref a ∧ DGet H a y (some v) ∧ Q v H) := by
  intro value slice pins s σ H x y v u Q I rx ry h hs
  obtain ⟨a, z, rfl, g, q⟩ := h
  cases rx
  exact tail_any (dict_typeIs I g) PySem.F.slot_dict_getitem.lookup (d_getItem hu I g ry fun w' s3 I3 rw' => ⟨z, H, I3, rw', q⟩) hs
theorem atI_rv {K : PySem.W.Frag} {φ : Nat → Addr} {n : Nat} {H : Hp} {xs : List AV} {vs : List V} {i : Int} {x : AV} (r : Rvs K φ n H xs vs) (e : atI xs i = some x) : ∃ v, atI vs i = some v ∧ Rv K φ n H x v := by
  unfold atI at e ⊢
  rw [← r.length]
  cases q : ixN xs.length i with
  | none => rw [q] at e; cases e
  | some j =>
    rw [q] at e
    exact r.get e
theorem sat_opt {K : PySem.W.Frag} {φ : Nat → Addr} {st : MP.St} {H : Hp} {o : Option AV} {F : AV → (Nat → Addr) → MP.St → Hp → Prop} (S : Sim K cl φ st H) (h : Sat K cl φ st.n H (M.opt o st) F) : ∃ v, o = some v ∧ F v φ st H := by
  cases o with
  | none => exact h.elim
  | some v => exact ⟨v, rfl, Sat.here S h⟩
theorem lookup_rks {K : PySem.W.Frag} {φ : Nat → Addr} {n : Nat} {H : Hp} {k : Key} {x : AV} : ∀ {xs : List (Key × AV)} {vs : List (Key × V)}, Rks K φ n H xs vs → valA xs k = some x → ∃ v, valV vs k = some v ∧ Rv K φ n H x v
  | _, _, .nil, e => by cases e
  | _, _, .cons (k := k') (xs := xs) h r, e => by
    unfold valA at e
    by_cases q : k' = k
    · rw [if_pos q] at e
      cases e
      exact ⟨_, valV_pos q, h⟩
    · rw [if_neg q] at e
      obtain ⟨v, h1, h2⟩ := lookup_rks r e
      exact ⟨v, by rw [valV_neg q]; exact h1, h2⟩
theorem ix_okM (hu : X.A.units + 1 < cLine) : IxR X (ROp X.K cl ixA) := by
  intro value slice pins s σ H x y v u Q I r1 r2 h hs
  obtain ⟨φ, st, a, b, S, ra, rb, h⟩ := h
  cases ra with
  | @tup xs p vs hp rs =>
    cases rb with
    | int i =>
      obtain ⟨w, e, q⟩ := sat_opt S h
      obtain ⟨z, e2, rz⟩ := atI_rv rs e
      exact ix_tup value slice pins s σ H _ _ v u Q I r1 r2 ⟨p, vs, i, z, rfl, rfl, hp, e2, q z rz⟩ hs
    | _ => exact h.elim
  | str z =>
    cases rb with
    | int i =>
      obtain ⟨hg, h⟩ := Sat.guard h
      obtain ⟨w, e, q⟩ := sat_opt S h
      obtain ⟨c, e1, rfl⟩ := Option.map_eq_some_iff.mp e
      exact ix_str value slice pins s σ H _ _ v u Q I r1 r2 ⟨z, i, c, rfl, rfl, by rw [line_eq]; exact of_decide_eq_true hg, e1, q _ (.str _)⟩ hs
    | _ => exact h.elim
  | @ref a ha =>
    cases rb with
    | int i =>
      replace h : Sat X.K cl φ st.n H (match st.g a with
        | some (.lst xs) => M.opt (atI xs i) st
        | some (.flst xs) => M.opt (atI xs i) st
        | _ => .bad) fun v φ' st' H' => ∀ z, Rv X.K φ' st'.n H' v z → Q z H' := h
      split at h
      · rename_i xs ea
        obtain ⟨vs, h1, h2⟩ := S.obj a _ ea
        obtain ⟨w, e, q⟩ := sat_opt S h
        obtain ⟨z, e2, rz⟩ := atI_rv h2 e
        exact ix_list value slice pins s σ H _ _ v u Q I r1 r2 ⟨_, vs, i, z, rfl, rfl, .inl (.inl h1), e2, q z rz⟩ hs
      · rename_i xs ea
        obtain ⟨o, vs, h1, h2⟩ := S.obj a _ ea
        obtain ⟨w, e, q⟩ := sat_opt S h
        obtain ⟨z, e2, rz⟩ := atI_rv h2 e
        exact ix_list value slice pins s σ H _ _ v u Q I r1 r2 ⟨_, vs, i, z, rfl, rfl, .inl (.inr ⟨o, h1⟩), e2, q z rz⟩ hs
      · exact h.elim
    | str k =>
      replace h : Sat X.K cl φ st.n H (match st.g a with
        | some (.dic kvs) => M.opt (valA kvs (Sum.inr k)) st
        | _ => .bad) fun v φ' st' H' => ∀ z, Rv X.K φ' st'.n H' v z → Q z H' := h
      split at h
      · rename_i kvs ea
        obtain ⟨ks, h1, h2⟩ := S.obj a _ ea
        obtain ⟨w, e, q⟩ := sat_opt S h
        obtain ⟨z, e2, rz⟩ := lookup_rks h2 e
        exact ix_dict hu value slice pins s σ H _ _ v u Q I r1 r2 ⟨_, z, rfl, by have g := DGet.k (k := (Sum.inr k : Key)) h1; rw [e2] at g; exact g, q z rz⟩ hs
      · exact h.elim
    | _ => exact h.elim
  | _ => exact h.elim
end
end MP
end
section
set_option Elab.async false
set_option linter.all false
set_option maxRecDepth 100000
set_option maxHeartbeats 1000000
/-! MpE: built-in functions and methods. -/
namespace MP
open PySem PySem.Spec PyProof.Rows L2

section
variable {K : PySem.W.Frag} {cl : List CI} {C : Calls} {φ φ' : Nat → Addr} {n n' : Nat} {H H' : Hp} {st st' : MP.St} {env : Env} {σ : L2.St}
theorem rvs_ints : ∀ {vs : List AV} {ns : List Int} {xs : List V}, asInts vs = some ns → Rvs K φ n H vs xs → xs = ns.map V.int
  | [], _, _, e, r => by
    cases r; cases e; rfl
  | .int i :: vs, ns, _, e, r => by
    cases r with
    | cons r1 r2 =>
      obtain ⟨ms, e1, rfl⟩ := Option.map_eq_some_iff.mp (show (asInts vs).map (i :: ·) = some ns from e)
      cases r1
      rw [rvs_ints e1 r2]
      rfl
  | .non :: _, _, _, e, _ => by cases e
  | .bl _ :: _, _, _, e, _ => by cases e
  | .str _ :: _, _, _, e, _ => by cases e
  | .tup _ :: _, _, _, e, _ => by cases e
  | .ref _ :: _, _, _, e, _ => by cases e
theorem rvs_bools : ∀ {vs : List AV} {ns : List Bool} {xs : List V}, asBools vs = some ns → Rvs K φ n H vs xs → xs = ns.map V.bl
  | [], _, _, e, r => by
    cases r; cases e; rfl
  | .bl i :: vs, ns, _, e, r => by
    cases r with
    | cons r1 r2 =>
      obtain ⟨ms, e1, rfl⟩ := Option.map_eq_some_iff.mp (show (asBools vs).map (i :: ·) = some ns from e)
      cases r1
      rw [rvs_bools e1 r2]
      rfl
  | .non :: _, _, _, e, _ => by cases e
  | .int _ :: _, _, _, e, _ => by cases e
  | .str _ :: _, _, _, e, _ => by cases e
  | .tup _ :: _, _, _, e, _ => by cases e
  | .ref _ :: _, _, _, e, _ => by cases e
theorem rvs_strs : ∀ {vs : List AV} {ns : List Str} {xs : List V}, asStrs vs = some ns → Rvs K φ n H vs xs → xs = ns.map V.str
  | [], _, _, e, r => by
    cases r; cases e; rfl
  | .str i :: vs, ns, _, e, r => by
    cases r with
    | cons r1 r2 =>
      obtain ⟨ms, e1, rfl⟩ := Option.map_eq_some_iff.mp (show (asStrs vs).map (i :: ·) = some ns from e)
      cases r1
      rw [rvs_strs e1 r2]
      rfl
  | .non :: _, _, _, e, _ => by cases e
  | .int _ :: _, _, _, e, _ => by cases e
  | .bl _ :: _, _, _, e, _ => by cases e
  | .tup _ :: _, _, _, e, _ => by cases e
  | .ref _ :: _, _, _, e, _ => by cases e
theorem Rvs.one {v : AV} {xs : List V} (r : Rvs K φ n H [v] xs) : ∃ x, xs = [x] ∧ Rv K φ n H v x := by
  cases r with
  | cons r1 r2 => cases r2; exact ⟨_, rfl, r1⟩
theorem Rvs.two {v w : AV} {xs : List V} (r : Rvs K φ n H [v, w] xs) : ∃ x y, xs = [x, y] ∧ Rv K φ n H v x ∧ Rv K φ n H w y := by
  cases r with
  | cons r1 r2 =>
    obtain ⟨y, rfl, r3⟩ := r2.one
    exact ⟨_, _, rfl, r1, r3⟩
theorem Rvs.zero {xs : List V} (r : Rvs K φ n H [] xs) : xs = [] := by cases r; rfl
end

section
variable {X : Cx} {cl : List CI}
def biV : Bi → Value
  | .len => .builtin "len" | .sum => .builtin "sum" | .max2 => .builtin "max" | .min2 => .builtin "min" | .int => .type "int" | .all => .builtin "all" | .list => .type "list" | .repr => .builtin "repr"
/-- what is bad is asked of nothing -/
theorem bad_call {f : Value} {g : List AV → M AV} (h : ∀ vs st, g vs st = .bad → True) : True := trivial

theorem bi_len : CallR X (.builtin "len") (RCall X.K cl (biA .len)) := by
  intro pins s σ H xs us Q I r h
  obtain ⟨φ, st, vs, S, ra, h⟩ := h
  match vs, ra, h with
  | [.str x], ra, h =>
    obtain ⟨y, rfl, r1⟩ := ra.one
    cases r1
    obtain ⟨hg, h⟩ := Sat.guard h
    exact call_len pins s σ H _ us Q I r ⟨_, _, rfl, ⟨by rw [line_eq]; exact of_decide_eq_true hg, rfl⟩, q_pure S (.int _) h⟩
  | [.tup ys], ra, h =>
    obtain ⟨y, rfl, r1⟩ := ra.one
    cases r1 with
    | @tup _ p ws hp rs => exact call_len pins s σ H _ us Q I r ⟨_, ys.length, rfl, .inr ⟨ws, hp, rs.length⟩, q_pure S (.int _) h⟩
  | [.ref a], ra, h =>
    obtain ⟨y, rfl, r1⟩ := ra.one
    cases r1
    replace h : Sat X.K cl φ st.n H (match lstOf st (.ref a) with
      | some xs => .ok (.int xs.length) st
      | none => .bad) fun v φ' st' H' => ∀ z, Rv X.K φ' st'.n H' v z → Q z H' := h
    cases e : lstOf st (.ref a) with
    | none => rw [e] at h; exact h.elim
    | some ys =>
      rw [e] at h
      obtain ⟨ws, h1, h2⟩ := S.seq e
      exact call_len pins s σ H _ us Q I r ⟨_, ys.length, rfl, .inl ⟨ws, h1, h2.length⟩, q_pure S (.int _) h⟩
  | [], _, h => exact h.elim
  | .non :: _, _, h => exact absurd h (by cases ‹List AV› <;> exact id)
  | .bl _ :: _, _, h => exact absurd h (by cases ‹List AV› <;> exact id)
  | .int _ :: _, _, h => exact absurd h (by cases ‹List AV› <;> exact id)
  | .str _ :: _ :: _, _, h => exact h.elim
  | .tup _ :: _ :: _, _, h => exact h.elim
  | .ref _ :: _ :: _, _, h => exact h.elim

theorem lst_case {φ : Nat → Addr} {st : MP.St} {H : Hp} {α : Type} {a : Nat} {k : List AV → Out α} {F : α → (Nat → Addr) → MP.St → Hp → Prop} (h : Sat X.K cl φ st.n H (match lstOf st (.ref a) with
      | some xs => k xs
      | none => .bad) F) : ∃ xs, lstOf st (.ref a) = some xs ∧ Sat X.K cl φ st.n H (k xs) F := by
  cases e : lstOf st (.ref a) with
  | none => rw [e] at h; exact h.elim
  | some xs => rw [e] at h; exact ⟨xs, rfl, h⟩
abbrev Vq (K : PySem.W.Frag) (Q : VK) : AV → (Nat → Addr) → MP.St → Hp → Prop := fun v φ' st' H' => ∀ z, Rv K φ' st'.n H' v z → Q z H'
theorem bi_eq1 (st : MP.St) (a : Nat) : biA .sum [.ref a] st = (match (lstOf st (.ref a)).bind asInts with
      | some ns => .ok (.int ns.sum) st
      | none => .bad) := rfl
theorem bi_eq2 (st : MP.St) (a : Nat) : biA .all [.ref a] st = (match (lstOf st (.ref a)).bind asBools with
      | some ns => .ok (.bl (ns.all id)) st
      | none => .bad) := rfl
theorem me_eq3 (st : MP.St) (z : Str) (a : Nat) : meA .join (.str z) [.ref a] st = (match (lstOf st (.ref a)).bind asStrs with
      | some xs => M.guard (decide ((xs.map Str.length).sum + xs.length * z.length ≤ line)) (.pure (.str (Txt.join z xs))) st
      | none => .bad) := rfl
theorem bi_sum (hc : X.calm = true) : CallR X (.builtin "sum") (RCall X.K cl (biA .sum)) := by
  intro pins s σ H xs us Q I r h
  obtain ⟨φ, st, vs, S, ra, h⟩ := h
  match vs, ra, h with
  | [.ref a], ra, h =>
    obtain ⟨y, rfl, r1⟩ := ra.one
    cases r1
    rw [bi_eq1] at h
    cases e0 : (lstOf st (.ref a)).bind asInts with
    | none => rw [e0] at h; exact h.elim
    | some ns =>
    rw [e0] at h
    obtain ⟨ys, e, e2⟩ := Option.bind_eq_some_iff.mp e0
    obtain ⟨ws, h1, h2⟩ := S.seq e
    rw [rvs_ints e2 h2] at h1
    exact cr_sum hc pins s σ H _ us Q I r ⟨_, ns, rfl, h1, q_pure S (.int _) h⟩
  | [], _, h => exact h.elim
  | .non :: _, _, h => exact absurd h (by cases ‹List AV› <;> exact id)
  | .bl _ :: _, _, h => exact absurd h (by cases ‹List AV› <;> exact id)
  | .int _ :: _, _, h => exact absurd h (by cases ‹List AV› <;> exact id)
  | .str _ :: _, _, h => exact absurd h (by cases ‹List AV› <;> exact id)
  | .tup _ :: _, _, h => exact absurd h (by cases ‹List AV› <;> exact id)
  | .ref _ :: _ :: _, _, h => exact h.elim
theorem bi_all (hc : X.calm = true) : CallR X (.builtin "all") (RCall X.K cl (biA .all)) := by
  intro pins s σ H xs us Q I r h
  obtain ⟨φ, st, vs, S, ra, h⟩ := h
  match vs, ra, h with
  | [.ref a], ra, h =>
    obtain ⟨y, rfl, r1⟩ := ra.one
    cases r1
    rw [bi_eq2] at h
    cases e0 : (lstOf st (.ref a)).bind asBools with
    | none => rw [e0] at h; exact h.elim
    | some ns =>
    rw [e0] at h
    obtain ⟨ys, e, e2⟩ := Option.bind_eq_some_iff.mp e0
    obtain ⟨ws, h1, h2⟩ := S.seq e
    rw [rvs_bools e2 h2] at h1
    exact cr_all hc pins s σ H _ us Q I r ⟨_, ns, rfl, h1, q_pure S (.bl _) h⟩
  | [], _, h => exact h.elim
  | .non :: _, _, h => exact absurd h (by cases ‹List AV› <;> exact id)
  | .bl _ :: _, _, h => exact absurd h (by cases ‹List AV› <;> exact id)
  | .int _ :: _, _, h => exact absurd h (by cases ‹List AV› <;> exact id)
  | .str _ :: _, _, h => exact absurd h (by cases ‹List AV› <;> exact id)
  | .tup _ :: _, _, h => exact absurd h (by cases ‹List AV› <;> exact id)
  | .ref _ :: _ :: _, _, h => exact h.elim
theorem two_ints {f : Int → Int → Int} {b : Bi} {V0 : Value} (hb : ∀ i j, biA b [.int i, .int j] = .pure (.int (f i j))) (hn : ∀ vs, (∀ i j, ¬ vs = [AV.int i, AV.int j]) → ∀ s, biA b vs s = .bad)
    (rule : CallR X V0 (fun xs H Q => ∃ i j, xs = [.int i, .int j] ∧ Q (.int (f i j)) H)) : CallR X V0 (RCall X.K cl (biA b)) := by
  intro pins s σ H xs us Q I r h
  obtain ⟨φ, st, vs, S, ra, h⟩ := h
  by_cases z : ∃ i j, vs = [AV.int i, AV.int j]
  · obtain ⟨i, j, rfl⟩ := z
    rw [hb] at h
    obtain ⟨x, y, rfl, r1, r2⟩ := ra.two
    cases r1
    cases r2
    exact rule pins s σ H _ us Q I r ⟨i, j, rfl, q_pure S (.int _) h⟩
  · rw [hn vs fun i j e => z ⟨i, j, e⟩] at h
    exact h.elim
theorem bad_two {b : Bi} (hb : b = .max2 ∨ b = .min2) (vs : List AV) (hn : ∀ i j, ¬ vs = [AV.int i, AV.int j]) (s : MP.St) : biA b vs s = .bad := by
  rcases hb with rfl | rfl
  all_goals
    match vs, hn with
    | [], _ => rfl
    | [a], _ => cases a <;> rfl
    | [a, b], hn => cases a <;> cases b <;> first | rfl | exact absurd rfl (hn _ _)
    | a :: b :: c :: r, _ => cases a <;> cases b <;> rfl
theorem bi_max2 (hc : X.calm = true) : CallR X (.builtin "max") (RCall X.K cl (biA .max2)) := two_ints (f := fun i j => if j > i then j else i) (fun _ _ => rfl) (bad_two (.inl rfl)) (call_max2 hc)
theorem bi_min2 (hc : X.calm = true) : CallR X (.builtin "min") (RCall X.K cl (biA .min2)) := two_ints (f := fun i j => if j < i then j else i) (fun _ _ => rfl) (bad_two (.inr rfl)) (call_min2 hc)
theorem bi_int : CallR X (.type "int") (RCall X.K cl (biA .int)) := by
  intro pins s σ H xs us Q I r h
  obtain ⟨φ, st, vs, S, ra, h⟩ := h
  match vs, ra, h with
  | [.int i], ra, h =>
    obtain ⟨y, rfl, r1⟩ := ra.one
    cases r1
    exact call_int1 pins s σ H _ us Q I r (.inl ⟨i, rfl, q_pure S (.int _) h⟩)
  | [.bl b], ra, h =>
    obtain ⟨y, rfl, r1⟩ := ra.one
    cases r1
    exact call_int1 pins s σ H _ us Q I r (.inr ⟨b, rfl, q_pure S (.int _) h⟩)
  | [], _, h => exact h.elim
  | .non :: _, _, h => exact absurd h (by cases ‹List AV› <;> exact id)
  | .bl _ :: _ :: _, _, h => exact h.elim
  | .int _ :: _ :: _, _, h => exact h.elim
  | .str _ :: _, _, h => exact absurd h (by cases ‹List AV› <;> exact id)
  | .tup _ :: _, _, h => exact absurd h (by cases ‹List AV› <;> exact id)
  | .ref _ :: _, _, h => exact absurd h (by cases ‹List AV› <;> exact id)
theorem bi_list : CallR X (.type "list") (RCall X.K cl (biA .list)) := by
  intro pins s σ H xs us Q I r h
  obtain ⟨φ, st, vs, S, ra, h⟩ := h
  match vs, ra, h with
  | [.ref a], ra, h =>
    obtain ⟨y, rfl, r1⟩ := ra.one
    cases r1
    obtain ⟨ys, e, h⟩ := lst_case (k := fun xs => M.new (.lst xs) st) (F := Vq X.K Q) h
    obtain ⟨ws, h1, h2⟩ := S.seq e
    exact call_list_of pins s σ H _ us Q I r ⟨_, ws, rfl, .inl h1, q_new S h2 h⟩
  | [.tup ys], ra, h =>
    obtain ⟨y, rfl, r1⟩ := ra.one
    cases r1 with
    | @tup _ p ws hp rs => exact call_list_of pins s σ H _ us Q I r ⟨_, ws, rfl, .inr hp, q_new S rs h⟩
  | [], _, h => exact h.elim
  | .non :: _, _, h => exact absurd h (by cases ‹List AV› <;> exact id)
  | .bl _ :: _, _, h => exact absurd h (by cases ‹List AV› <;> exact id)
  | .int _ :: _, _, h => exact absurd h (by cases ‹List AV› <;> exact id)
  | .str _ :: _, _, h => exact absurd h (by cases ‹List AV› <;> exact id)
  | .tup _ :: _ :: _, _, h => exact h.elim
  | .ref _ :: _ :: _, _, h => exact h.elim

/-! ### slices -/
theorem rvs_cut {K : PySem.W.Frag} {φ : Nat → Addr} {n : Nat} {H : Hp} {xs : List AV} {vs : List V} (r : Rvs K φ n H xs vs) (lo hi : Option Int) : Rvs K φ n H (cutA xs lo hi) (cutV vs lo hi) := by
  unfold cutA cutV
  rw [r.length]
  exact (r.drop _).take _
def RSl (K : PySem.W.Frag) (cl : List CI) : V → Option Int → Option Int → Hp → VK → Prop := fun x lo hi H Q => ∃ φ st a, Sim K cl φ st H ∧ Rv K φ st.n H a x ∧
  Sat K cl φ st.n H (slA a lo hi st) fun v φ' st' H' => ∀ z, Rv K φ' st'.n H' v z → Q z H'
theorem sl_okM : SlR X (RSl X.K cl) := by
  intro pins s σ H x v vl vu lo hi sl Q I rx hs pl pu h
  obtain ⟨φ, st, a, S, ra, h⟩ := h
  cases ra with
  | @ref a ha =>
    replace h : Sat X.K cl φ st.n H (match st.g a with
      | some (.lst xs) => M.new (.lst (cutA xs lo hi)) st
      | some (.flst xs) => M.new (.lst (cutA xs lo hi)) st
      | _ => .bad) fun v φ' st' H' => ∀ z, Rv X.K φ' st'.n H' v z → Q z H' := h
    split at h
    · rename_i xs ea
      obtain ⟨vs, h1, h2⟩ := S.obj a _ ea
      exact sl_list pins s σ H _ v vl vu lo hi sl Q I rx hs pl pu ⟨_, vs, rfl, .inl (.inl h1), q_new S (rvs_cut h2 lo hi) h⟩
    · rename_i xs ea
      obtain ⟨o, vs, h1, h2⟩ := S.obj a _ ea
      exact sl_list pins s σ H _ v vl vu lo hi sl Q I rx hs pl pu ⟨_, vs, rfl, .inl (.inr ⟨o, h1⟩), q_new S (rvs_cut h2 lo hi) h⟩
    · exact h.elim
  | _ => exact h.elim

/-! ### methods -/
def meT : Me → String
  | .append => "list" | .insert => "list" | .join => "str" | .bitlen => "int"
def meId : Me → String
  | .append => "list.append" | .insert => "list.insert" | .join => "str.join" | .bitlen => "int.bit_length"
def RMe (K : PySem.W.Frag) (cl : List CI) (m : Me) : V → List V → Hp → VK → Prop := fun x xs H Q => ∃ φ st a vs, Sim K cl φ st H ∧ Rv K φ st.n H a x ∧ Rvs K φ st.n H vs xs ∧
  Sat K cl φ st.n H (meA m a vs st) fun v φ' st' H' => ∀ z, Rv K φ' st'.n H' v z → Q z H'
/-- the list is changed -/
theorem q_set {φ : Nat → Addr} {st : MP.St} {H : Hp} {a : Nat} {xs ys : List AV} {vs : List V} {v : AV} {z : V} {Q : VK} (S : Sim X.K cl φ st H) (e : st.g a = some (.lst xs)) (r : Rvs X.K φ st.n H ys vs)
    (h : Sat X.K cl φ st.n H (.ok .non (st.set a (.lst ys))) fun v φ' st' H' => ∀ z, Rv X.K φ' st'.n H' v z → Q z H') : Q .non (upd H (φ a) (.lst vs)) := by
  have la := S.lt a _ e
  have g := grow_set (o := .lst vs) S la
  have S' : Sim X.K cl φ (st.set a (.lst ys)) (upd H (φ a) (.lst vs)) := S.set la ⟨vs, upd_same, r.grow S g⟩
  exact h φ _ g S' _ .non
theorem me_append : MtR X "list.append" (RMe X.K cl .append) := by
  intro pins s σ H x xs v us Q I rx rs h
  obtain ⟨φ, st, a, vs, S, ra, rvs, h⟩ := h
  match a, vs, ra, rvs, h with
  | .ref a, [w], ra, rvs, h =>
    cases ra
    obtain ⟨y, rfl, r1⟩ := rvs.one
    replace h : Sat X.K cl φ st.n H (match st.g a with
      | some (.lst xs) => M.guard (decide (xs.length < line)) (fun s => .ok .non (s.set a (.lst (xs ++ [w])))) st
      | _ => .bad) fun v φ' st' H' => ∀ z, Rv X.K φ' st'.n H' v z → Q z H' := h
    split at h
    · rename_i ys ea
      obtain ⟨hg, h⟩ := Sat.guard h
      have hg := of_decide_eq_true hg
      obtain ⟨ws, h1, h2⟩ := S.obj a _ ea
      rw [h2.length, ← line_eq] at hg
      exact mt_append pins s σ H _ _ v us Q I rx rs ⟨_, ws, y, rfl, rfl, h1, hg, q_set (z := .non) (v := .non) S ea (h2.append (.cons r1 .nil)) h⟩
    · exact h.elim
  | .ref a, [], _, _, h => exact h.elim
  | .ref a, _ :: _ :: _, _, _, h => exact h.elim
  | .non, _, _, _, h => exact h.elim
  | .bl _, _, _, _, h => exact h.elim
  | .int _, _, _, _, h => exact h.elim
  | .str _, _, _, _, h => exact h.elim
  | .tup _, _, _, _, h => exact h.elim
theorem me_insert : MtR X "list.insert" (RMe X.K cl .insert) := by
  intro pins s σ H x xs v us Q I rx rs h
  obtain ⟨φ, st, a, vs, S, ra, rvs, h⟩ := h
  match a, vs, ra, rvs, h with
  | .ref a, [.int i, w], ra, rvs, h =>
    cases ra
    obtain ⟨y0, y, rfl, r0, r1⟩ := rvs.two
    cases r0
    replace h : Sat X.K cl φ st.n H (match st.g a with
      | some (.lst xs) => M.guard (decide (xs.length < line) && (decide (0 ≤ i) && decide (i < 2 ^ 63))) (fun s => .ok .non (s.set a (.lst (xs.take i.toNat ++ [w] ++ xs.drop i.toNat)))) st
      | _ => .bad) fun v φ' st' H' => ∀ z, Rv X.K φ' st'.n H' v z → Q z H' := h
    split at h
    · rename_i ys ea
      obtain ⟨hg, h⟩ := Sat.guard h
      rw [Bool.and_eq_true, Bool.and_eq_true] at hg
      obtain ⟨g1, g2, g3⟩ := hg
      have g1 := of_decide_eq_true g1
      have g2 := of_decide_eq_true g2
      have g3 := of_decide_eq_true g3
      obtain ⟨ws, h1, h2⟩ := S.obj a _ ea
      rw [h2.length, ← line_eq] at g1
      exact mt_insert pins s σ H _ _ v us Q I rx rs ⟨_, ws, i, y, rfl, rfl, h1, g1, g2, g3, q_set (z := .non) (v := .non) S ea (((h2.take _).append (.cons r1 .nil)).append (h2.drop _)) h⟩
    · exact h.elim
  | .ref a, [], _, _, h => exact h.elim
  | .ref a, [.non], _, _, h => exact h.elim
  | .ref a, [.bl _], _, _, h => exact h.elim
  | .ref a, [.int _], _, _, h => exact h.elim
  | .ref a, [.str _], _, _, h => exact h.elim
  | .ref a, [.tup _], _, _, h => exact h.elim
  | .ref a, [.ref _], _, _, h => exact h.elim
  | .ref a, [.non, _], _, _, h => exact h.elim
  | .ref a, [.bl _, _], _, _, h => exact h.elim
  | .ref a, [.str _, _], _, _, h => exact h.elim
  | .ref a, [.tup _, _], _, _, h => exact h.elim
  | .ref a, [.ref _, _], _, _, h => exact h.elim
  | .ref a, x :: _ :: _ :: _, _, _, h => exact absurd h (by cases x <;> exact id)
  | .non, _, _, _, h => exact h.elim
  | .bl _, _, _, _, h => exact h.elim
  | .int _, _, _, _, h => exact h.elim
  | .str _, _, _, _, h => exact h.elim
  | .tup _, _, _, _, h => exact h.elim
theorem me_join : MtR X "str.join" (RMe X.K cl .join) := by
  intro pins s σ H x xs v us Q I rx rs h
  obtain ⟨φ, st, a, vs, S, ra, rvs, h⟩ := h
  match a, vs, ra, rvs, h with
  | .str z, [.ref a], ra, rvs, h =>
    cases ra
    obtain ⟨y, rfl, r1⟩ := rvs.one
    cases r1
    rw [me_eq3] at h
    cases e0 : (lstOf st (.ref a)).bind asStrs with
    | none => rw [e0] at h; exact h.elim
    | some ns =>
    rw [e0] at h
    obtain ⟨ys, e, e2⟩ := Option.bind_eq_some_iff.mp e0
    obtain ⟨hg, h⟩ := Sat.guard h
    have hg := of_decide_eq_true hg
    obtain ⟨ws, h1, h2⟩ := S.seq e
    rw [rvs_strs e2 h2] at h1
    exact mt_join pins s σ H _ _ v us Q I rx rs ⟨z, _, ns, rfl, rfl, .inl h1, hg, q_pure S (.str _) h⟩
  | .str z, [], _, _, h => exact h.elim
  | .str z, [.non], _, _, h => exact h.elim
  | .str z, [.bl _], _, _, h => exact h.elim
  | .str z, [.int _], _, _, h => exact h.elim
  | .str z, [.str _], _, _, h => exact h.elim
  | .str z, [.tup _], _, _, h => exact h.elim
  | .str z, x :: _ :: _, _, _, h => exact absurd h (by cases x <;> exact id)
  | .ref a, _, _, _, h => exact h.elim
  | .non, _, _, _, h => exact h.elim
  | .bl _, _, _, _, h => exact h.elim
  | .int _, _, _, _, h => exact h.elim
  | .tup _, _, _, _, h => exact h.elim
/-- a receiver of the wanted type -/
theorem mek_ok {φ : Nat → Addr} {st : MP.St} {H : Hp} {m : Me} {a : AV} {x : V} {F : Unit → (Nat → Addr) → MP.St → Hp → Prop} (S : Sim X.K cl φ st H) (r : Rv X.K φ st.n H a x) (h : Sat X.K cl φ st.n H (meK m a st) F) : tyV X.K (meT m) x H ∧ F () φ st H := by
  have lst : ∀ {b : Nat}, Sat X.K cl φ st.n H (match lstOf st (.ref b) with
    | some _ => .ok () st
    | none => .bad) F → tyV X.K "list" (.ref (φ b)) H ∧ F () φ st H := fun {b} h => by
    obtain ⟨ys, e, h⟩ := lst_case h
    obtain ⟨ws, h1, h2⟩ := S.seq e
    exact ⟨.inl ⟨rfl, _, h1⟩, Sat.here S h⟩
  cases m with
  | append => cases r with
    | ref _ => exact lst h
    | _ => exact h.elim
  | insert => cases r with
    | ref _ => exact lst h
    | _ => exact h.elim
  | join => cases r with
    | str _ => exact ⟨rfl, Sat.here S h⟩
    | _ => exact h.elim
  | bitlen => cases r with
    | int _ => exact ⟨rfl, Sat.here S h⟩
    | _ => exact h.elim
theorem tev_meth {C : Calls} {m : Me} {o args : E} {σ : L2.St} {H : Hp} {Q : VK} (h : TEv X.K cl C (.meth m o args) σ H Q) : tBM X.K (meT m) (RMe X.K cl m) (TEv X.K cl C o) (TAv X.K cl C args) σ H Q := by
  obtain ⟨φ, st, env, S, R, h⟩ := h
  refine (TEv.step S R h).mono fun x H1 ⟨φ1, st1, v, g1, S1, rx, R1, h1⟩ => ?_
  have h2 := mek_ok S1 rx (Sat.bind h1)
  refine ⟨h2.1, ?_⟩
  exact (TAv.step S1 R1 h2.2).mono fun xs H2 ⟨φ2, st2, vs, g2, S2, rs, R2, h3⟩ => ⟨φ2, st2, v, vs, S2, rx.grow S1 g2, rs, h3⟩
end
end MP
end
section
set_option Elab.async false
set_option linter.all false
set_option maxRecDepth 100000
set_option maxHeartbeats 1000000
/-! MpX: own exceptions over ValueError, with super().__init__() and one field, made as values. -/
namespace PySem
namespace MPX
open Sem (wp)
open Builtin
open HandSPX (excO refsVE)
section
variable {M : Model} {prog : Program} {w : World} {A : Around} {E : Value → Shared → Prop} {R : Result → Shared → Prop} {h : Heap} {g : Array GenState} {d : Drawn} {t : Nat} {os : OsState}
variable {nm q : Str} {C N : Addr} {bs bm bmB : List Value} {hdct : Bool} {sn : List Str} {sub : List Value} {ab : Bool} {col : Option Bool} {dd : Option Addr} {k0 k1 k2 k3 k5 : Option Value} {B newId initId : String}
theorem star_kw (f sh full short : String) (r : Manifest.Receiver) (n : Nat) (kw : List Str) : Bind.check ⟨.any, f, sh, r, [⟨"args", .varPos, false⟩, ⟨"kwargs", .varKw, false⟩]⟩ full short n kw = pure () := by
  simp [Bind.check, Bind.checkCount, Bind.isPositional]

theorem check_new_kw (F : ExcBaseFacts B newId initId bmB) (hT : ∀ X : String, bm.contains (.type X) = bmB.contains (.type X)) {rest : List Value} {kw : List (Str × Value)} {Q : Unit → Shared → Prop}
    (hC : h.get? C = some (excClassObj nm q C N bs bm hdct sn sub ab col dd k0 k1 k2 k3 k5 newId)) (hq : Q () ⟨h, g, d, t, os⟩) : wpAny M A (checkBuiltinCall newId ⟨.ref C :: rest, kw⟩) Q E ⟨h, g, d, t, os⟩ := by
  have hcont : (Value.ref C :: bm).contains (.type B) = true := by rw [List.contains_cons, hT, F.hasB, Bool.or_true]
  have hstar := F.noStar
  simp only [checkBuiltinCall, F.newKind, F.newSplit, F.newRow]
  repeat (first | refine wpAny_loadPart_at hC ?_ | (refine wpAny_isSubtype_exc hC ?_; rw [hcont]) | refine wpAny_staticBase_exc hC ?_ | refine wpAny_madeBy_exc hC ?_ | simp only [bne_self_eq_false, Bool.false_eq_true, if_false] | wp_step)
  all_goals first
    | exact hq
    | skip
theorem new_kw (F : ExcBaseFacts B newId initId bmB) (hT : ∀ X : String, bm.contains (.type X) = bmB.contains (.type X)) {rest : List Value} {kw : List (Str × Value)}
    (hC : h.get? C = some (excClassObj nm q C N bs bm hdct sn sub ab col dd k0 k1 k2 k3 k5 newId))
    (hq : R (.ok (.ret (.ref (h.objs.size + 1)))) ⟨(h.push { cls := .type "tuple", data := .seq rest.toArray }).push
      { cls := .ref C, data := .fields #[.ref h.objs.size, .none, .none, .none, .bool false, .none] }, g, d, t, os⟩) (hrest : rest.length ≤ sizeLine) :
    codeAny (model prog w) A (.builtin newId ⟨.ref C :: rest, kw⟩) R ⟨h, g, d, t, os⟩ := by
  have hends := F.ends
  have hcB : (Value.ref C :: bm).contains (.type B) = true := by rw [List.contains_cons, hT, F.hasB, Bool.or_true]
  have hcA : (Value.ref C :: bm).contains (.type "AttributeError") = false := by rw [List.contains_cons, hT, F.noAttr]; rfl
  have hcN : (Value.ref C :: bm).contains (.type "NameError") = false := by rw [List.contains_cons, hT, F.noName]; rfl
  refine codeAny_builtinAt F.entry ?_
  unfold Builtin.«BaseException.__new__»
  refine wpAt_bind ?_
  show wpAt _ _ _ (stack >>= _) _ _ _
  refine wpAt_bind (wpAt_stack fun p below => wpAt_of_wpAny ?_)
  wp_walk
  refine wpAt_of_wpAny ?_
  rw [F.owner]
  repeat (first | with_reducible refine wpAny_madeHere_exc F.canon hC ?_ | with_reducible refine wpAny_loadPart_at hC ?_ | (with_reducible refine wpAny_isSubtype_exc hC ?_; first | rw [hcB] | rw [hcA] | rw [hcN]) | wp_step)
  show R _ _
  rw [Heap.size_push]
  exact hq

theorem type_call_kw (F : ExcBaseFacts B newId initId bmB) (hT : ∀ X : String, bm.contains (.type X) = bmB.contains (.type X)) {rest : List Value} {kw : List (Str × Value)} {fI : Addr} {Q : Fin → Shared → Prop}
    (hC : h.get? C = some (excClassObj nm q C N bs bm hdct sn sub ab col dd k0 k1 k2 k3 k5 newId))
    (hi : W.Looks (model prog w) h (typeLookup (.ref C) "__init__") (some (.ref fI))) (hb : ∀ self, W.Looks (model prog w) h (bindSpecial (.ref fI) self) (.ref fI, [self])) (hrest : rest.length ≤ sizeLine)
    (hq : codeAny (model prog w) A (.call (.ref fI) ⟨.ref (h.objs.size + 1) :: rest, kw⟩)
      (fun r s' => match r with | .ok (.ret v) => v = .none ∧ Q (.done (.ret (.ref (h.objs.size + 1)))) s' | .ok _ => False | .error e => E e s')
      ⟨(h.push (W.kdv_tup rest)).push (excO C h.objs.size), g, d, t, os⟩) :
    wpAny (model prog w) A (Builtin.«type.__call__» ⟨.ref C :: rest, kw⟩) Q E ⟨h, g, d, t, os⟩ := by
  repeat (first | with_reducible refine wpAny_loadPart_at hC ?_ | with_reducible refine wpAny_madeBy_exc hC ?_ | wp_step)
  refine codeAny_call_builtin_code (Code.quiet_builtin _ F.quiet) (check_new_kw F hT hC ?_)
  refine new_kw F hT hC ?_ hrest
  show wpAny _ _ _ _ _ _
  have k : ∀ b o, h.get? b = some o → ((h.push (W.kdv_tup rest)).push (excO C h.objs.size)).get? b = some o := fun b o e => Heap.get?_push_of_some _ (Heap.get?_push_of_some _ e)
  have hC₁ := k _ _ hC
  have hget : ((h.push (W.kdv_tup rest)).push (excO C h.objs.size)).get? (h.objs.size + 1) = some (excO C h.objs.size) := by heap_get
  have hcC : (Value.ref C :: bm).contains (.ref C) = true := by simp
  have i1 := hi.keeps k
  have b1 := (hb (.ref (h.objs.size + 1))).keeps k
  unfold isInstance
  repeat (first | with_reducible refine wpAny_loadPart_at hget ?_ | (with_reducible refine wpAny_isSubtype_exc hC₁ ?_; rw [hcC]) | wp_step)
  show wpAny _ _ (typeLookup (.ref C) _) _ _ _
  refine i1.at ?_
  refine wpAny_holding (wpAny_bind (b1.at ?_))
  refine wpAny_bind (wpAny_call (codeAny_mono hq fun r s' z => ?_))
  rcases r with e | (v | _ | _ | _) <;> first | exact z | exact z.elim | skip
  obtain ⟨rfl, z⟩ := z
  first
    | exact wpAny_pure (wpAny_pure z)
    | (wp_walk; exact z)
theorem check_type_call_kw {rest : List Value} {kw : List (Str × Value)} {Q : Unit → Shared → Prop} (hC : h.get? C = some (excClassObj nm q C N bs bm hdct sn sub ab col dd k0 k1 k2 k3 k5 newId))
    (hq : Q () ⟨h, g, d, t, os⟩) : wpAny M A (checkBuiltinCall "type.__call__" ⟨.ref C :: rest, kw⟩) Q E ⟨h, g, d, t, os⟩ := by
  have f3 := tc_sub
  have hT : (⟨h, g, d, t, os⟩ : Shared).TypeIs (.ref C) "type" := ⟨_, hC, rfl⟩
  simp only [checkBuiltinCall, tc_kind, tc_split]
  repeat (any_goals (first | assumption | with_reducible refine wpAny_loadPart_at hC ?_ | with_reducible refine wpAny_onRaise ?_ | with_reducible refine wpAny_map ?_ | wp_step))
theorem call_kw (F : ExcBaseFacts B newId initId bmB) (hT : ∀ X : String, bm.contains (.type X) = bmB.contains (.type X)) {rest : List Value} {kw : List (Str × Value)} {fI : Addr}
    (hC : h.get? C = some (excClassObj nm q C N bs bm hdct sn sub ab col dd k0 k1 k2 k3 k5 newId))
    (hi : W.Looks (model prog w) h (typeLookup (.ref C) "__init__") (some (.ref fI))) (hb : ∀ self, W.Looks (model prog w) h (bindSpecial (.ref fI) self) (.ref fI, [self])) (hrest : rest.length ≤ sizeLine)
    (hq : codeAny (model prog w) (A.under (.builtin "type.__call__" ⟨.ref C :: rest, kw⟩)) (.call (.ref fI) ⟨.ref (h.objs.size + 1) :: rest, kw⟩) (W.InitBack (h.objs.size + 1) R)
      ⟨(h.push (W.kdv_tup rest)).push (excO C h.objs.size), g, d, t, os⟩) :
    codeAny (model prog w) A (.call (.ref C) ⟨rest, kw⟩) R ⟨h, g, d, t, os⟩ := by
  have f1 := tc_lookup
  have f2 := tc_bind (.ref C)
  have hTy : (⟨h, g, d, t, os⟩ : Shared).TypeIs (.ref C) "type" := ⟨_, hC, rfl⟩
  refine codeAny_of_tree ?_
  show wpAny _ _ (callAny (.ref C) _) _ _ _
  repeat (any_goals (first | assumption | with_reducible refine wpAny_loadPart_at hC ?_ | wp_step))
  refine ⟨rfl, ?_⟩
  refine codeAny_call_builtin_at (Code.quiet_builtin _ (by decide +kernel)) entry_typeCall (check_type_call_kw hC (type_call_kw F hT hC hi hb hrest ?_))
  refine codeAny_mono hq fun r s' z => ?_
  rcases r with e | (v | _ | _ | _) <;> exact z
end
end MPX
end PySem
end
section
set_option Elab.async false
set_option linter.all false
set_option maxRecDepth 100000
set_option maxHeartbeats 1000000
/-! MpY: the __init__ of such an exception runs. -/
namespace PySem
namespace MPX
open Sem (wp)
open Builtin PySem.W PySem.Calls PyProof.Rows
open HandSPX (excO refsVE)
section
variable {prog : Program} {w : World} {A : Around} {E : Value → Shared → Prop} {h : Heap} {g : Array GenState} {d : Drawn} {t : Nat} {os : OsState}
variable {nm q : Str} {C N : Addr} {bs bm bmB : List Value} {hdct : Bool} {sn : List Str} {sub : List Value} {ab : Bool} {col : Option Bool} {dd : Option Addr} {k0 k1 k2 k3 k5 : Option Value}
theorem call_mw {u e t0 : Addr} {rest : List Value} {Q : Value → Shared → Prop}
    (hC : h.get? C = some (excClassObj nm q C N bs bm hdct sn sub ab col dd k0 k1 k2 k3 k5 "ValueError.__new__")) (he : h.get? e = some (excO C t0)) (hu : h.get? u = some (kxs_mw "ValueError.__init__" e)) (hrest : rest.length ≤ sizeLine)
    (hq : ∀ h' t1, (∀ b o, b ≠ e → h.get? b = some o → h'.get? b = some o) → h'.get? e = some (excO C t1) → Q .none ⟨h', g, d, t, os⟩) :
    wpAny (model prog w) A (call (.ref u) rest) Q E ⟨h, g, d, t, os⟩ := by
  refine wpAny_call (codeAny_of_tree ?_)
  show wpAny _ A.in1 (callAny (.ref u) ⟨rest, []⟩) _ _ _
  simp only [callAny]
  refine wpAny_bind (wpAny_load hu ?_)
  simp only [kxs_mw, show (Value.type "method-wrapper" == Value.type "method" || Value.type "method-wrapper" == Value.type "builtin_function_or_method" || Value.type "method-wrapper" == Value.type "method-wrapper") = true by decide, if_true]
  refine W.KFB.if_so (by decide) ?_
  refine wpAny_bind (check_bound_init F.excBase_ValueError.toExcCallFacts hC he rfl ?_)
  refine wpAny_bind (wpAny_pure (wpAny_pure ?_))
  refine ⟨plainId_quiet F.excBase_ValueError.init.plain _, codeAny_builtin F.excBase_ValueError.initEntry ?_⟩
  exact exc_init_tree (cls := .ref C) (t0 := t0) (dv := none) (c2 := .none) (c3 := .none) (b4 := .bool false) he hrest fun h' k e' _ => hq h' _ k e'
end
end MPX
end PySem
end
section
set_option Elab.async false
set_option linter.all false
set_option maxRecDepth 100000
set_option maxHeartbeats 1000000
/-! MpZ: a call of such a class gives a new exception with its one field. -/
namespace MP
open PySem PySem.Spec PyProof.Rows L2
def veParams (a0 a1 : Pos) (df : List Expr) : Arguments := { posonlyargs := [], args := [⟨"self", none, a0⟩, ⟨"value", none, a1⟩], vararg := none, kwonlyargs := [], kw_defaults := [], kwarg := none, defaults := df }
def veBody (p0 p1 p2 p3 p4 p5 p6 p7 p8 : Pos) : List Stmt := [.Expr (.Call (.Attribute (.Call (.Name "super" p0) [] [] p1) "__init__" p2) [] [] p3) p4, .Assign [.Attribute (.Name "self" p5) "value" p6] (.Name "value" p7) p8]
def veScope : Scope := { kind := .function, names := [("self", .local), ("value", .local), ("__class__", .free), ("super", .globalImplicit)], isGenerator := false, isCoroutine := false, more := [] }
structure VeF (P : Program) (K : PySem.W.Frag) (C fI cc cda T0 : Addr) (fd : FuncData) : Prop where
  iC : PySem.W.findIn K (.ref C) "__init__" = some (some (.ref fI))
  tI : PySem.W.typeIn K (.ref fI) = some (.type "function")
  lk : ∃ oc od osl, K.lookup fI = some ⟨oc, od, .func fd, osl⟩
  sh : ∃ name qual a0 a1 df p0 p1 p2 p3 p4 p5 p6 p7 p8 kV doc pm an ct, fd = PySem.W.ksFn name qual (veParams a0 a1 df) (veBody p0 p1 p2 p3 p4 p5 p6 p7 p8) veScope (.ref T0) kV doc pm an (.ref cda) ct cc ∧ PySem.W.codeIn K (.ref cda) qual = true ∧ (p2.endLine == p3.line) = true
  dflt : ∃ o n, K.lookup T0 = some o ∧ o.data = .seq #[.none] n
  code : ∃ ccl cdd vs ccs file tf, K.lookup cda = some ⟨ccl, cdd, .fields vs, ccs⟩ ∧ vs[2]? = some (.str file tf) ∧ ((P.main.file : Str) == file) = true
  cell : ∃ cl cld csl, K.lookup cc = some ⟨cl, cld, .cell (some (.ref C)), csl⟩
structure VeC (P : Program) (K : PySem.W.Frag) (C : Addr) : Prop where
  T : OexC K C
  no : PySem.W.findIn K (.ref C) "value" = some none
  fn : ∃ fI cc cda T0 fd, VeF P K C fI cc cda T0 fd
  sup : PySem.W.ks_superIn K C C "__init__" = some (some (.builtin "ValueError.__init__"))
  sub : PySem.W.subIn K (.ref C) (.type "ValueError") = some true
  self : PySem.W.mroIn K C (.ref C) = some true
/-- what the whole program has -/
structure VeP (P : Program) (K : PySem.W.Frag) (mg : Str → Option Value) : Prop where
  super : mg "super" = none
  any : PySem.W.nsIn K cStatics "thirdparty.any" = some none
  top : (P.main.scope.names.lookup ("super" : Str)).isSome = false

def plO (o : Expr) (env : PySem.Env) : Sem Bool := do return (← importBound o env).getD true
theorem he_meth {o : Expr} {name : Str} {apos pos : Pos} {env : PySem.Env} (hline : (apos.endLine == pos.line) = true) : eval (.Call (.Attribute o name apos) [] [] pos) env = (do
      let ov ← attributeBase o name env (eval o env)
      standAt apos.atName
      let (f, first) ← holding [ov] (getMethod ov name (plO o env))
      callWith pos f first (backTo pos (starEach [] env)) []) := by
  have hpos : methodCallPos true o env apos pos = pure pos := by unfold methodCallPos; simp [hline]
  rw [arm_eval_Call]
  unfold methodCall
  have hform : methodCallForm (([] : List Expr).length + ([] : List Keyword).length) (backTo pos (starEach [] env)) (backToKw pos (keywordEach [] env)) = true := by rfl
  rw [hform, hpos]
  rfl
theorem Ns.up {h h' : Heap} {L : Addr} {m : Str → Option Value} (hn : h.Ns L m) (k : ∀ o, h.get? L = some o → h'.get? L = some o) : h'.Ns L m := by
  obtain ⟨oL, es, ep, hL, r⟩ := hn
  exact ⟨oL, es, ep, k _ hL, r⟩

section
variable {X : Cx} {pins : List (Addr × Obj)} {σ : L2.St} {H : Hp} {s : Shared} {C fI cc cda T0 x : Addr} {fd : FuncData} {A : Around} {v : V} {u : Value} {args : Args} {R : Result → Shared → Prop}
theorem ve_init (VP : VeP X.prog X.K X.mg) (VC : VeC X.prog X.K C) (F : VeF X.prog X.K C fI cc cda T0 fd) (hroom : A.depth < recursionLimit) (I : Inv X pins σ H s) (e : H x = some (exo x C none)) (rv : RelV v u)
    (hb : BindsTo s fd args [("self", .ref x), ("value", u)])
    (h : ∀ dx s', H dx = none → dx ≠ x → Inv X pins σ (upd (upd H dx (exd dx [("value", v)])) x (exo x C (some dx))) s' → R (.ok (.ret .none)) s') :
    codeAny (model X.prog X.w) A (.call (.ref fI) args) R s := by
  obtain ⟨oc, od, osl, lk⟩ := F.lk
  obtain ⟨name, qual, a0, a1, df, p0, p1, p2, p3, p4, p5, p6, p7, p8, kV, doc, pm, an, ct, rfl, hcd, hline⟩ := F.sh
  obtain ⟨ccl, cdd, vs, ccs, file, tf, hcode, hvs, hfile⟩ := F.code
  obtain ⟨cl, cld, csl, hcell⟩ := F.cell
  obtain ⟨nm, q, N, bs, bm, sn, sub, ab, col, dd, k0, k1, k2, k3, k5, hC, hbm⟩ := VC.T.cls
  obtain ⟨t1, hx⟩ := exo_at I.hok e
  have KX := I.kIn
  have hcd' : PySem.W.clsIn X.K C = some { name := nm, bases := bs, mro := .ref C :: bm, ns := N, qualname := q, hasDict := true, slotNames := sn, subclasses := sub, abstract := ab, collection := col, hasDel := false } := by unfold PySem.W.clsIn; rw [hC] <;> rfl
  refine PySem.ks_codeAny_call_defAt (binds := [("self", .ref x), ("value", u)]) hroom (KX _ _ lk) rfl I.nolimit (PySem.W.codeRec_of KX hcd) rfl hb (show ∀ y ∈ veScope.names, y.2 ≠ .cell by decide) (fun y hy => ?_) (fun h1 hns hk => ?_)
  · rcases List.mem_cons.mp hy with rfl | hy
    · rfl
    · rcases List.mem_cons.mp hy with rfl | hy
      · rfl
      · cases hy
  have hk' : ∀ b o, s.heap.get? b = some o → h1.get? b = some o := hk
  have I1 := I.kept (t' := s.toks + 2) hk'
  have hL : x ≠ s.heap.objs.size := Nat.ne_of_lt (Heap.lt_size hx)
  obtain ⟨mb, hbl, hbl2⟩ := I.mod.blt
  obtain ⟨g, dr, tk, os⟩ : Array GenState × Drawn × Nat × OsState := (s.gens, s.drawn, s.toks + 2, s.os)
  refine PySem.ks_wpAt_execs_cons (PySem.ks_wpAt_Expr_any ?_)
  have hev := he_meth (o := .Call (.Name "super" p0) [] [] p1) (name := "__init__") (env := callEnv (PySem.W.ksFn name qual (veParams a0 a1 df) (veBody p0 p1 p2 p3 p4 p5 p6 p7 p8) veScope (.ref T0) kV doc pm an (.ref cda) ct cc) s.heap.objs.size fI) hline
  refine PySem.ks_wpAt_MethodCall (pl := plO _ _) ?_ hev
  refine PySem.ks_wpAt_super_base (by rfl) (by rfl) (by decide) rfl (I1.kIn _ _ lk) rfl (by rfl) rfl (I1.kIn _ _ hcode) rfl hvs hfile VP.top ?_
  refine PySem.W.ks_loadName_global (by rfl) (by rfl) (PySem.Calls.loadGlobal_builtin (I1.mod.glob.keeps I1.bk) VP.super (hbl.keeps I1.bk) ((hbl2 _ (by decide +kernel)).trans (by first | rfl | kernel_rfl)) ⟨rfl, ?_⟩)
  refine wpAny_loadName_free (by rfl) (by rfl) (by rfl) ⟨_, I1.kIn _ _ hcell, rfl⟩ ?_
  refine wpAny_loadName_local (by rfl) (by rfl) hns (by rfl) ?_
  refine PySem.ks_wpAny_isType_cls (I1.kIn _ _ hC) rfl ⟨rfl, ?_⟩
  have hx1 := hk' _ _ hx
  refine PySem.ks_wpAny_call_super (I1.kIn _ _ hC) rfl hx1 rfl (fun c e => by cases e) (PySem.W.looks_mroIn I1.kIn VC.self) (fun h2 hso k2 => ?_)
  have I2 := I1.kept (t' := s.toks + 2) k2
  have sup := VC.sup
  unfold PySem.W.ks_superIn at sup
  rw [hcd'] at sup
  have J : PySem.W.InstAt h2 x (PySem.HandSPX.excO C t1) C none := ⟨k2 _ _ hx1, rfl, rfl, trivial⟩
  refine PySem.W.kxs_getMethod PySem.W.kxs_ValueError hso (PySem.W.looks_opaque I2.kIn VP.any) (l₀ := .ref C :: bm) (fun A Q E s k q => wpAny_bind ((PySem.W.looks_clsIn I2.kIn hcd') A _ E s k (wpAny_pure q))) rfl I2.kIn sup (J.type.andThen (PySem.W.looks_subIn I2.kIn VC.sub)) (PySem.W.ks_ne I2.kIn J hcd') (by decide) ?_
  have k3 : ∀ b o, h2.get? b = some o → (h2.push (PySem.W.kxs_mw "ValueError.__init__" x)).get? b = some o := fun b o e => Heap.get?_push_of_some _ e
  have I3 := I2.kept (t' := s.toks + 3) k3
  have hu : (h2.push (PySem.W.kxs_mw "ValueError.__init__" x)).get? h2.objs.size = some (PySem.W.kxs_mw "ValueError.__init__" x) := Heap.get?_push_size _ rfl
  refine PySem.W.kxs_callWith (i := "ValueError.__init__") (x := x) (by rfl) (PySem.evalArgs_none ⟨hu, ?_⟩)
  refine PySem.MPX.call_mw (rest := []) (I3.kIn _ _ hC) (k3 _ _ (k2 _ _ hx1)) hu (by show 0 ≤ sizeLine; omega) (fun h4 t4 k4 hx4 => ?_)
  obtain ⟨hx4', hx4⟩ : True ∧ _ := ⟨trivial, hx4⟩
  have I4' := I3.write (t' := s.toks + 3) (x := x) (e := x) (o := exo x C none) (by rw [e]; exact True.intro) (.inl rfl) k4 ⟨_, hx4⟩ (exo_ok hx4)
  have eu : upd H x (exo x C none) = H := by
    funext b
    by_cases hb : b = x
    · rw [hb, upd_same, e]
    · rw [upd_ne hb]
  rw [eu] at I4'
  have hns4 : h4.Ns s.heap.objs.size (fun y => List.lookup y ([("self", Value.ref x), ("value", u)] : List (Str × Value)).reverse) := Ns.up hns fun o q => k4 _ _ (Ne.symm hL) (k3 _ _ (k2 _ _ q))
  refine PySem.ks_wpAt_execs_cons (PySem.ks_wpAt_Assign_Attr (PySem.wpAt_of_wpAny ?_) (by rfl))
  refine PySem.ESX.ldL hns4 (by rfl) ?_
  refine PySem.ESX.ldL hns4 (by rfl) ?_
  refine ost_new VC.T I4' e VC.no rv fun dx s' hdx hne J => ?_
  exact PySem.wpAt_of_wpAny (PySem.wpAny_execs_nil (h dx s' hdx hne J))
/-- the three ways to bind -/
theorem ve_bind {s : Shared} {fd : FuncData} {args : Args} {binds : List (Str × Value)} {K : PySem.W.Frag} {T0 : Addr} (KX : K.In s.heap) (hd : ∃ o n, K.lookup T0 = some o ∧ o.data = .seq #[.none] n) (hf : ∃ k, bindArgs fd args = seqItems? (.ref T0) >>= k ∧ k (some #[.none]) = pure binds) : BindsTo s fd args binds := by
  obtain ⟨o, n, lT, oT⟩ := hd
  obtain ⟨k, e1, e2⟩ := hf
  refine BindsTo.of_looks fun M => ?_
  rw [e1]
  exact looks_items KX lT oT (PySem.W.Looks.of_pure e2)
theorem ve_b2 (F : VeF X.prog X.K C fI cc cda T0 fd) (KX : X.K.In s.heap) (y u : Value) : BindsTo s fd ⟨[y, u], []⟩ [("self", y), ("value", u)] := by
  obtain ⟨name, qual, a0, a1, df, p0, p1, p2, p3, p4, p5, p6, p7, p8, kV, doc, pm, an, ct, rfl, hcd, hline⟩ := F.sh
  exact ve_bind KX F.dflt ⟨_, rfl, rfl⟩
theorem ve_b1 (F : VeF X.prog X.K C fI cc cda T0 fd) (KX : X.K.In s.heap) (y : Value) : BindsTo s fd ⟨[y], []⟩ [("self", y), ("value", .none)] := by
  obtain ⟨name, qual, a0, a1, df, p0, p1, p2, p3, p4, p5, p6, p7, p8, kV, doc, pm, an, ct, rfl, hcd, hline⟩ := F.sh
  exact ve_bind KX F.dflt ⟨_, rfl, rfl⟩
theorem ve_bk (F : VeF X.prog X.K C fI cc cda T0 fd) (KX : X.K.In s.heap) (y u : Value) : BindsTo s fd ⟨[y], [("value", u)]⟩ [("self", y), ("value", u)] := by
  obtain ⟨name, qual, a0, a1, df, p0, p1, p2, p3, p4, p5, p6, p7, p8, kV, doc, pm, an, ct, rfl, hcd, hline⟩ := F.sh
  exact ve_bind KX F.dflt ⟨_, rfl, rfl⟩
theorem ve_call {k : Nat} {us : List Value} {kw : List (Str × Value)} {Q : Value → Shared → Prop} (VP : VeP X.prog X.K X.mg) (VC : VeC X.prog X.K C) (hr : Room (k + 1) X.A) (I : Inv X pins σ H s) (rv : RelV v u) (hus : us.length ≤ sizeLine)
    (hb : ∀ (fI cc cda T0 : Addr) (fd : FuncData), VeF X.prog X.K C fI cc cda T0 fd → ∀ (s : Shared), X.K.In s.heap → ∀ y, BindsTo s fd ⟨y :: us, kw⟩ [("self", y), ("value", u)])
    (h : ∀ x dx s', H x = none → H dx = none → dx ≠ x → Inv X pins σ (upd (upd H dx (exd dx [("value", v)])) x (exo x C (some dx))) s' → Q (.ref x) s') :
    wpAny (model X.prog X.w) X.A (call (.ref C) us kw) Q X.xe s := by
  obtain ⟨fI, cc, cda, T0, fd, F⟩ := VC.fn
  obtain ⟨nm, q, N, bs, bm, sn, sub, ab, col, dd, k0, k1, k2, k3, k5, hC, hbm⟩ := VC.T.cls
  obtain ⟨hp, g, dr, tk, os⟩ := s
  have hsz : hp.objs.size ≤ hp.objs.size + 1 := Nat.le_succ _
  have hn : H (hp.objs.size + 1) = none := I.hok.fresh hsz
  have kk : ∀ b o, hp.get? b = some o → ((hp.push (PySem.W.kdv_tup us)).push (PySem.HandSPX.excO C hp.objs.size)).get? b = some o := fun b o e => Heap.get?_push_of_some _ (Heap.get?_push_of_some _ e)
  have hget : ((hp.push (PySem.W.kdv_tup us)).push (PySem.HandSPX.excO C hp.objs.size)).get? (hp.objs.size + 1) = some (PySem.HandSPX.excO C hp.objs.size) := by heap_get
  have I2 : Inv X pins σ (upd H (hp.objs.size + 1) (exo (hp.objs.size + 1) C none)) ⟨(hp.push (PySem.W.kdv_tup us)).push (PySem.HandSPX.excO C hp.objs.size), g, dr, tk, os⟩ :=
    I.laid (t' := tk) (a := hp.objs.size + 1) (o := exo (hp.objs.size + 1) C none) (h' := (hp.push (PySem.W.kdv_tup us)).push (PySem.HandSPX.excO C hp.objs.size)) kk hsz (exo_ok hget)
  refine wpAny_call (PySem.MPX.call_kw PySem.F.excBase_ValueError (fun Y => PySem.HandSPX.refsVE_contains Y bm hbm) (I.kIn _ _ hC) (PySem.W.looks_findIn I.kIn F.iC) (fun self => PySem.W.bind_fn I.kIn self F.tI) hus ?_)
  refine ve_init VP VC F (hr.make C us kw).depth I2 upd_same rv (hb fI cc cda T0 fd F _ I2.kIn _) fun dx s' hdx hne J => ?_
  refine ⟨rfl, ?_⟩
  rw [upd_ne hne] at hdx
  refine h (hp.objs.size + 1) dx s' hn hdx hne ?_
  have e : upd (upd (upd H (hp.objs.size + 1) (exo (hp.objs.size + 1) C none)) dx (exd dx [("value", v)])) (hp.objs.size + 1) (exo (hp.objs.size + 1) C (some dx)) = upd (upd H dx (exd dx [("value", v)])) (hp.objs.size + 1) (exo (hp.objs.size + 1) C (some dx)) := by
    funext b
    by_cases hb : b = hp.objs.size + 1
    · subst hb; rw [upd_same, upd_same]
    · rw [upd_ne hb, upd_ne hb]
      by_cases hd : b = dx
      · subst hd; rw [upd_same, upd_same]
      · rw [upd_ne hd, upd_ne hd, upd_ne hb]
  rw [e] at J
  exact J
end
end MP
end
section
set_option Elab.async false
set_option linter.all false
set_option maxRecDepth 100000
set_option maxHeartbeats 1000000
/-! MpF: what is asked of the written part; types, exceptions, repr, dicts. -/
namespace MP
open PySem PySem.Spec PyProof.Rows L2

def tagV (K : PySem.W.Frag) (cl : List CI) : Tag → Value
  | .non => .type "NoneType" | .bl => .type "bool" | .int => .type "int" | .str => .type "str" | .lst => .type "list" | .tup => .type "tuple" | .dic => .type "dict" | .cls c => .ref (cAd K cl c)
def tyVal (K : PySem.W.Frag) (cl : List CI) : Ty → V
  | .int => .ty "int" | .bool => .ty "bool" | .str => .ty "str" | .list => .ty "list" | .tuple => .ty "tuple" | .dict => .ty "dict" | .verr => .ty "ValueError" | .cls c => .ref (cAd K cl c)
def tyU (K : PySem.W.Frag) (cl : List CI) : Ty → Value
  | .int => .type "int" | .bool => .type "bool" | .str => .type "str" | .list => .type "list" | .tuple => .type "tuple" | .dict => .type "dict" | .verr => .type "ValueError" | .cls c => .ref (cAd K cl c)
theorem ty_cls (K : PySem.W.Frag) (cl : List CI) (t : Ty) : ClsV (tyVal K cl t) (tyU K cl t) := by cases t <;> constructor
def okTag (cl : List CI) : Tag → Bool
  | .cls c => decide (c < cl.length)
  | _ => true
def okTy (cl : List CI) : Ty → Bool
  | .cls c => decide (c < cl.length)
  | _ => true

/-- what the written part tells of an exception class -/
structure ExcK (K : PySem.W.Frag) (C : Addr) : Prop where
  cl : (PySem.W.clsIn K C).isSome = true
  ga : PySem.W.findIn K (.ref C) "__getattribute__" = some (some (.builtin "BaseException.__getattribute__"))
  gg : PySem.W.findIn K (.ref C) "__getattr__" = some none
  exC : PySem.W.subIn K (.ref C) (.type "BaseException") = some true
  hdC : PySem.W.hasDictIn K C = true
  ha : PySem.W.findIn K (.ref C) "__class__" = some (some (.builtin "object.__class__"))
  hm : PySem.W.mroIn K C (.type "object") = some true
  kp : PySem.W.keepIn K (.ref C) = true
structure KOk (P : Program) (K : PySem.W.Frag) (mg : Str → Option Value) (base : Heap) (cl : List CI) : Prop where
  vp : VeP P K mg
  exk : ∀ c i, cl[c]? = some i → i.exc = true → ExcK K (cAd K cl c)
  ve : ∀ c i, cl[c]? = some i → i.exc = true → i.bare = false → VeC P K (cAd K cl c)
  bare : ∀ c i, cl[c]? = some i → i.exc = true → i.bare = true → ∃ bmB, ExcBaseFacts "ValueError" "ValueError.__new__" "ValueError.__init__" bmB ∧ PySem.W.excIn K (cAd K cl c) bmB "ValueError.__new__" = true
  val : ∀ c i, cl[c]? = some i → i.exc = true → PySem.W.findIn K (.ref (cAd K cl c)) "value" = some none
  kit : ∀ g t, okTag cl g = true → okTy cl t = true → PySem.W.kitOne K (tagV K cl g) (tyU K cl t) = some (isT cl g t)
  hn : PySem.W.specialIn K (.builtin "object.__class__") "__get__" = some (some (.builtin "getset_descriptor.__get__"))
  htk : PySem.W.takesIn K (.builtin "object.__class__") = some true
  sm : ∃ o, base.get? sysModules = some o
  nam : ∀ c i, cl[c]? = some i → mg (Str.ofString i.name) = some (.ref (cAd K cl c))

section
variable {X : Cx} {pins : List (Addr × Obj)} {σ : L2.St} {H : Hp} {s : Shared} {cl : List CI} {φ : Nat → Addr} {st : MP.St}
/-! ### types -/
theorem tag_kit (KO : KOk X.prog X.K X.mg X.base cl) (I : Inv X pins σ H s) (S : Sim X.K cl φ st H) {a : AV} {x : V} {u : Value} {g : Tag} (ra : Rv X.K φ st.n H a x) (rx : RelV x u) (e : tagA st a = some g) :
    okTag cl g = true ∧ ∃ P : Heap → Prop, PySem.W.KitX X.K u (tagV X.K cl g) P ∧ P s.heap ∧ u ≠ .builtin "__main__.__loader__#opaque" := by
  have exo_case : ∀ {p : Addr} {c : Nat} {d : Option Addr} {oD : Option Obj} {i : CI}, cl[c]? = some i → i.exc = true → H p = some (exo p (cAd X.K cl c) d) → (match d, oD with
      | none, none => True
      | some d, some o => s.heap.get? d = some o
      | _, _ => False) → ∃ P : Heap → Prop, PySem.W.KitX X.K (.ref p) (.ref (cAd X.K cl c)) P ∧ P s.heap ∧ Value.ref p ≠ .builtin "__main__.__loader__#opaque" := by
    intro p c d oD i hi he hp hd
    have E := KO.exk c i hi he
    obtain ⟨t1, ho⟩ := exo_at I.hok hp
    refine ⟨_, PySem.W.kitx_exc (x := p) (ox := _) (od := oD) E.cl E.ga E.gg E.exC E.ha KO.hn KO.htk E.hm, ⟨ho, rfl, rfl, ?_⟩, fun z => nomatch z⟩
    cases d with
    | none => cases oD with
      | none => trivial
      | some o => exact hd.elim
    | some d => cases oD with
      | none => exact hd.elim
      | some o => exact hd
  have lt_of : ∀ {c : Nat} {i : CI}, cl[c]? = some i → okTag cl (.cls c) = true := fun {c i} h => decide_eq_true (List.getElem?_eq_some_iff.mp h).1
  cases ra with
  | non => cases e; exact ⟨rfl, kit_of I rx (.base .non)⟩
  | bl b => cases e; exact ⟨rfl, kit_of I rx (.base (.bl b))⟩
  | int i => cases e; exact ⟨rfl, kit_of I rx (.base (.int i))⟩
  | str y => cases e; exact ⟨rfl, kit_of I rx (.base (.str y))⟩
  | @tup xs p vs hp rs =>
    cases e
    refine ⟨rfl, kit_of I rx ?_⟩
    rcases hp with hp | ⟨o, its, n, hk, hc, _⟩
    · rcases hp with hp | ⟨o, hp⟩
      · exact .base (.tup hp)
      · exact .fTuple hp
    · exact .kTuple hk hc
  | @ref b hb =>
    obtain ⟨o, ho⟩ := S.all b hb
    have q := S.obj b o ho
    replace e : (match st.g b with
      | some (.lst _) => some Tag.lst
      | some (.flst _) => some .lst
      | some (.dic _) => some .dic
      | some (.exc c _) => some (.cls c)
      | some (.exn c) => some (.cls c)
      | some (.ins c _) => some (.cls c)
      | none => none) = some g := e
    rw [ho] at e
    cases o with
    | lst xs => cases e; obtain ⟨vs, q, _⟩ := q; exact ⟨rfl, kit_of I rx (.base (.lst q))⟩
    | flst xs => cases e; obtain ⟨o, vs, q, _⟩ := q; exact ⟨rfl, kit_of I rx (.base (.frz q))⟩
    | dic kvs => cases e; obtain ⟨ks, q, _⟩ := q; exact ⟨rfl, kit_of I rx (.base (.dK q))⟩
    | exc c v =>
      cases e
      obtain ⟨⟨i, hi, he⟩, d, y, q, qd, nd, r⟩ := q
      cases (show u = Value.ref (φ b) from rx)
      obtain ⟨mA, hn, _⟩ := exd_at I.hok qd
      obtain ⟨oD, _, _, hoD, _⟩ := hn
      exact ⟨lt_of hi, exo_case (oD := some oD) hi he q hoD⟩
    | exn c =>
      cases e
      obtain ⟨⟨i, hi, he⟩, q⟩ := q
      cases (show u = Value.ref (φ b) from rx)
      exact ⟨lt_of hi, exo_case (oD := none) hi he q trivial⟩
    | ins c fs => exact q.elim
/-- isinstance(x, T) -/
def RIsin (K : PySem.W.Frag) (cl : List CI) (t : Ty) : List V → Hp → VK → Prop := fun xs H Q => ∃ φ st a x, xs = [x, tyVal K cl t] ∧ okTy cl t = true ∧ Sim K cl φ st H ∧ Rv K φ st.n H a x ∧
  Sat K cl φ st.n H (isinA cl [t] a st) fun v φ' st' H' => ∀ z, Rv K φ' st'.n H' v z → Q z H'
theorem isin_ok (KO : KOk X.prog X.K X.mg X.base cl) (t : Ty) : CallR X (.builtin "isinstance") (RIsin X.K cl t) := by
  intro pins s σ H xs us Q I r h
  obtain ⟨φ, st, a, x, rfl, ht, S, ra, h⟩ := h
  obtain ⟨u1, u2, rfl, r1, r2⟩ := vals2 r
  have e2 := (ty_cls X.K cl t).eq r2
  subst e2
  replace h : Sat X.K cl φ st.n H (match tagA st a with
    | some g => .ok (.bl ([t].any (isT cl g))) st
    | none => .bad) (Vq X.K Q) := h
  cases e : tagA st a with
  | none => rw [e] at h; exact h.elim
  | some g =>
    rw [e] at h
    obtain ⟨hg, P, Z, p, hx⟩ := tag_kit KO I S ra r1 e
    have q := q_pure S (.bl _) h
    rw [List.any_cons, List.any_nil, Bool.or_false] at q
    exact PySem.W.kia_one Z I.kIn p (KO.kit g t hg ht) hx fun tk => ⟨.bl _, H, I.tok tk, rfl, q⟩
end
end MP
end
section
set_option Elab.async false
set_option linter.all false
set_option maxRecDepth 100000
set_option maxHeartbeats 1000000
/-! MpG: exceptions made, their field read; repr; dict displays. -/
namespace MP
open PySem PySem.Spec PyProof.Rows L2

section
variable {X : Cx} {pins : List (Addr × Obj)} {σ : L2.St} {H : Hp} {s : Shared} {cl : List CI} {φ : Nat → Addr} {st : MP.St}
/-- a new object at a place where nothing stood -/
theorem laidN {a : Addr} {o : HO} {h' : Heap} {t' : Nat} (I : Inv X pins σ H s) (k : ∀ b u, s.heap.get? b = some u → h'.get? b = some u) (hp : s.heap.get? a = none) (new : ObjOk X.prog X.w (upd H a o) h' a o) :
    Inv X pins σ (upd H a o) { s with heap := h', toks := t' } := by
  have hn : H a = none := I.hok.gone hp
  have ne : ∀ {b : Addr} {u : Obj}, s.heap.get? b = some u → b ≠ a := fun {b u} q z => by rw [z, hp] at q; cases q
  refine I.un ?_ fun b u e => ?_
  · exact {
      keep := fun b u q _ _ _ => k b u q
      slot := fun b u q _ _ _ => ⟨u.slots, k b u q⟩
      free := fun b u q n _ => by rw [upd_ne (ne q)]; exact n
      there := fun b u q _ => ⟨u, k b u q⟩
      tups := fun b xs q => by rw [upd_ne (ne_of_none q hn)]; exact q
      frzs := fun b u xs q => by rw [upd_ne (ne_of_none q hn)]; exact q
      tbls := fun b ps q => ⟨#[], by rw [upd_ne (ne_of_none q hn), q]; simp⟩ }
  · by_cases hb : b = a
    · subst hb; rw [upd_same] at e; cases e; exact new
    · rw [upd_ne hb] at e
      exact (I.hok b u e).stay (fun c v _ q => k c v q) (fun c q => by rw [upd_ne (ne_of_none q hn)]; exact q) fun c xs q => by rw [upd_ne (ne_of_none q hn)]; exact q
/-! ### exceptions made -/
theorem q_exc {c : Nat} {i : CI} {v : AV} {x : V} {Q : VK} {e dx : Addr} (S : Sim X.K cl φ st H) (hi : cl[c]? = some i) (he : i.exc = true) (rv : Rv X.K φ st.n H v x) (h : Sat X.K cl φ st.n H (M.new (.exc c v) st) (Vq X.K Q)) (en : H e = none) (dn : H dx = none) (ne : dx ≠ e) :
    Q (.ref e) (upd (upd H dx (exd dx [("value", x)])) e (exo e (cAd X.K cl c) (some dx))) := by
  have S1 : Sim X.K cl φ st (upd H dx (exd dx [("value", x)])) := S.laid dn
  have g1 : Grow φ st.n H φ st.n (upd H dx (exd dx [("value", x)])) := grow_tup dn
  have en1 : upd H dx (exd dx [("value", x)]) e = none := by rw [upd_ne (Ne.symm ne)]; exact en
  have g2 := grow_new (φ := φ) (n := st.n) (o := exo e (cAd X.K cl c) (some dx)) en1
  have S2 : Sim X.K cl (ext φ st.n e) (st.push (.exc c v)) (upd (upd H dx (exd dx [("value", x)])) e (exo e (cAd X.K cl c) (some dx))) := by
    refine S1.new en1 ⟨⟨i, hi, he⟩, dx, x, upd_same, ?_, fun a ha => ?_, (rv.grow S g1).grow S1 g2⟩
    · rw [upd_ne ne, upd_same]
    · by_cases z : a < st.n
      · rw [ext_old z]; exact S.ne_new dn z
      · have ea : a = st.n := by omega
        subst ea
        rw [ext_new]; exact Ne.symm ne
  have z : Rv X.K (ext φ st.n e) (st.n + 1) (upd (upd H dx (exd dx [("value", x)])) e (exo e (cAd X.K cl c) (some dx))) (.ref st.n) (.ref (ext φ st.n e st.n)) := .ref (Nat.lt_succ_self _)
  rw [ext_new] at z
  exact h _ _ (g1.trans g2) S2 _ z
theorem q_exn {c : Nat} {i : CI} {Q : VK} {e : Addr} (S : Sim X.K cl φ st H) (hi : cl[c]? = some i) (he : i.exc = true) (h : Sat X.K cl φ st.n H (M.new (.exn c) st) (Vq X.K Q)) (en : H e = none) :
    Q (.ref e) (upd H e (exo e (cAd X.K cl c) none)) := by
  have g2 := grow_new (φ := φ) (n := st.n) (o := exo e (cAd X.K cl c) none) en
  have S2 : Sim X.K cl (ext φ st.n e) (st.push (.exn c)) (upd H e (exo e (cAd X.K cl c) none)) := S.new en ⟨⟨i, hi, he⟩, upd_same⟩
  have z : Rv X.K (ext φ st.n e) (st.n + 1) (upd H e (exo e (cAd X.K cl c) none)) (.ref st.n) (.ref (ext φ st.n e st.n)) := .ref (Nat.lt_succ_self _)
  rw [ext_new] at z
  exact h _ _ g2 S2 _ z
abbrev RMk (K : PySem.W.Frag) (cl : List CI) (c : Nat) : List V → Hp → VK → Prop := RCall K cl (mkA cl c)
theorem mkA_eq (c : Nat) (vs : List AV) (st : MP.St) : mkA cl c vs st = (match cl[c]? with
  | some i => match i.exc, i.bare, vs with
    | true, false, [v] => M.new (.exc c v) st
    | true, false, [] => M.new (.exc c .non) st
    | true, true, [] => M.new (.exn c) st
    | _, _, _ => .bad
  | none => .bad) := rfl
theorem mk_ok {k : Nat} (KO : KOk X.prog X.K X.mg X.base cl) (hr : Room (k + 1) X.A) (c : Nat) : CallR X (.ref (cAd X.K cl c)) (RMk X.K cl c) := by
  intro pins s σ H xs us Q I r h
  obtain ⟨φ, st, vs, S, ra, h⟩ := h
  rw [mkA_eq] at h
  cases hi : cl[c]? with
  | none => rw [hi] at h; exact h.elim
  | some i =>
    rw [hi] at h
    cases he : i.exc with
    | false =>
      simp only [he] at h
      exact h.elim
    | true =>
      cases hb : i.bare with
      | false =>
        simp only [he, hb] at h
        match vs, ra, h with
        | [v], ra, h =>
          obtain ⟨x, rfl, rx⟩ := ra.one
          obtain ⟨u, rfl, ru⟩ := vals1 r
          refine ve_call KO.vp (KO.ve c i hi he hb) hr I ru (by show 1 ≤ sizeLine; rw [sizeLine_eq]; omega) (fun fI cc cda T0 fd F s KX y => ve_b2 F KX y u) fun e dx s' en dn ne J => ?_
          exact ⟨.ref e, _, J, rfl, q_exc S hi he rx h en dn ne⟩
        | [], ra, h =>
          cases ra
          cases r
          refine ve_call (v := .non) (u := .none) KO.vp (KO.ve c i hi he hb) hr I rfl (by show 0 ≤ sizeLine; omega) (fun fI cc cda T0 fd F s KX y => ve_b1 F KX y) fun e dx s' en dn ne J => ?_
          exact ⟨.ref e, _, J, rfl, q_exc S hi he .non h en dn ne⟩
        | _ :: _ :: _, _, h => exact h.elim
      | true =>
        simp only [he, hb] at h
        match vs, ra, h with
        | [], ra, h =>
          cases ra
          cases r
          obtain ⟨bmB, F, q⟩ := KO.bare c i hi he hb
          obtain ⟨bm, N, nm, qn, bs, hdct, sn, sub, ab, col, dd, k0, k1, k2, k3, k5, mN, hC, hN, hni, T⟩ := exc_obj I.kIn q
          refine wpAny_call_exc_subT F T hC hN hni (fun h' e hm => ?_) (by show 0 ≤ sizeLine; omega)
          obtain ⟨t0, hoe, _, _⟩ := hm.there
          have en := I.hok.gone hm.new
          refine ⟨.ref e, _, laidN I hm.keeps hm.new (exo_ok (d := none) hoe), rfl, q_exn S hi he h en⟩
        | _ :: _, _, h => exact h.elim
/-- C(value=v) -/
theorem mkK_ok {k : Nat} (KO : KOk X.prog X.K X.mg X.base cl) (hr : Room (k + 1) X.A) (c : Nat) {x : V} {u : Value} {Q : VK} (I : Inv X pins σ H s) (ru : RelV x u) (h : RMk X.K cl c [x] H Q) :
    wpAny (model X.prog X.w) X.A (call (.ref (cAd X.K cl c)) [] [("value", u)]) (EP X pins σ Q) X.xe s := by
  obtain ⟨φ, st, vs, S, ra, h⟩ := h
  rw [mkA_eq] at h
  cases hi : cl[c]? with
  | none => rw [hi] at h; exact h.elim
  | some i =>
    rw [hi] at h
    cases he : i.exc with
    | false =>
      simp only [he] at h
      exact h.elim
    | true =>
      cases hb : i.bare with
      | false =>
        simp only [he, hb] at h
        match vs, ra, h with
        | [v], ra, h =>
          obtain ⟨x, e1, rx⟩ := ra.one
          cases e1
          refine ve_call KO.vp (KO.ve c i hi he hb) hr I ru (by show 0 ≤ sizeLine; omega) (fun fI cc cda T0 fd F s KX y => ve_bk F KX y u) fun e dx s' en dn ne J => ?_
          exact ⟨.ref e, _, J, rfl, q_exc S hi he rx h en dn ne⟩
        | [], ra, h => cases ra
        | _ :: _ :: _, _, h => exact h.elim
      | true =>
        simp only [he, hb] at h
        match vs, ra, h with
        | [], ra, h => cases ra
        | _ :: _, _, h => exact h.elim
section
variable {c : Nat} {i : CI} {k : Nat} {p pos kp : Pos} {e : Expr} {es : List Expr} {t : TA} {te : TE}
theorem pe_mk (KO : KOk X.prog X.K X.mg X.base cl) (hr : Room (k + 1) X.A) (hi : cl[c]? = some i) (hx : i.exc = true) (hg : Gl X (Str.ofString i.name)) (hdb : ((Str.ofString i.name) == ("__debug__" : Str)) = false) (ha : PA X (e :: es) t)
    (he : starEach (e :: es) X.env = (false, eval e X.env) :: starEach es X.env) (hpl : (backTo pos (starEach es X.env)).any (·.1) = false) :
    PE X (.Call (.Name (Str.ofString i.name) p) (e :: es) [] pos) (tCB (RMk X.K cl c) t) := by
  refine ⟨fun pins s σ H Q I h => ?_⟩
  refine wpAny_Call_Name_kw (ld_glob I hg (KO.nam c i hi) ?_ hdb)
  exact PySem.W.callWith_K (h₀ := X.base) I.ok.mod.kin (KO.exk c i hi hx).kp (thn (ha.run pos pins s σ H _ I h) fun us s1 ⟨vs, H1, I1, r, q⟩ => ⟨I1.kIn, mk_ok KO hr c pins s1 σ H1 vs us Q I1 r q⟩) he hpl
theorem pe_mk0 (KO : KOk X.prog X.K X.mg X.base cl) (hr : Room (k + 1) X.A) (hi : cl[c]? = some i) (hx : i.exc = true) (hg : Gl X (Str.ofString i.name)) (hdb : ((Str.ofString i.name) == ("__debug__" : Str)) = false) :
    PE X (.Call (.Name (Str.ofString i.name) p) [] [] pos) (tCB (RMk X.K cl c) tNil) := by
  refine ⟨fun pins s σ H Q I h => ?_⟩
  refine wpAny_Call_Name_kw (ld_glob I hg (KO.nam c i hi) ?_ hdb)
  exact PySem.W.callWith_K0 I.kIn (KO.exk c i hi hx).kp (mk_ok KO hr c pins s σ H [] [] Q I .nil h)
theorem mkK_any (KO : KOk X.prog X.K X.mg X.base cl) (hr : Room (k + 1) X.A) (c : Nat) {vs : List V} {us : List Value} {Q : VK} (I : Inv X pins σ H s) (r : Vals vs us) (h : RMk X.K cl c vs H Q) :
    wpAny (model X.prog X.w) X.A (call (.ref (cAd X.K cl c)) [] (List.zip [("value" : Str)] us)) (EP X pins σ Q) X.xe s := by
  match vs, r, h with
  | [], r, h => cases r; exact mk_ok KO hr c pins s σ H [] [] Q I .nil h
  | [x], r, h =>
    obtain ⟨u, rfl, ru⟩ := vals1 r
    exact mkK_ok KO hr c I ru h
  | x :: y :: zs, r, h =>
    obtain ⟨φ, st, vs, S, ra, h⟩ := h
    rw [mkA_eq] at h
    cases ra with
    | cons r1 ra =>
      cases ra with
      | cons r2 ra =>
        cases hi : cl[c]? with
        | none => rw [hi] at h; exact h.elim
        | some i =>
          rw [hi] at h
          cases he : i.exc <;> cases hb : i.bare <;> (simp only [he, hb] at h; exact h.elim)
theorem pe_mkK (KO : KOk X.prog X.K X.mg X.base cl) (hr : Room (k + 1) X.A) (hi : cl[c]? = some i) (hx : i.exc = true) (hg : Gl X (Str.ofString i.name)) (hdb : ((Str.ofString i.name) == ("__debug__" : Str)) = false) (ha : PE X e te) :
    PE X (.Call (.Name (Str.ofString i.name) p) [] [⟨some "value", e, kp⟩] pos) (tCB (RMk X.K cl c) (tCons te tNil)) := by
  refine ⟨fun pins s σ H Q I h => ?_⟩
  refine wpAny_Call_Name_kw (ld_glob I hg (KO.nam c i hi) ?_ hdb)
  refine PySem.W.callWith_KW0 (h₀ := X.base) I.ok.mod.kin (KO.exk c i hi hx).kp (by rfl) ?_ (by rfl)
  exact thn ((pk_cons (nm := some "value") (kpos := kp) ha pk_nil).run pos pins s σ H _ I h) fun ws s2 ⟨zs, H2, I2, rz, q2⟩ => ⟨I2.kIn, mkK_any KO hr c I2 rz q2⟩
end
/-! ### an exception's field -/
theorem fld_ok (KO : KOk X.prog X.K X.mg X.base cl) {e : Expr} {te : TE} {pos : Pos} (he : PE X e te) (hb : attributeBase e "value" X.env (eval e X.env) = eval e X.env) :
    PE X (.Attribute e "value" pos) (tUn (RUn X.K cl (fldA "value")) te) := by
  refine ⟨fun pins s σ H Q I h => ?_⟩
  refine attr_of hb (thn (he.run pins s σ H _ I h) fun u s1 ⟨x, H1, I1, rx, q⟩ => ?_)
  obtain ⟨φ, st, a, S, ra, h⟩ := q
  cases ra with
  | @ref b hb =>
    obtain ⟨o, ho⟩ := S.all b hb
    have q := S.obj b o ho
    replace h : Sat X.K cl φ st.n H1 (match st.g b with
      | some (.exc _ v) => M.guard (decide (("value" : Str) = "value")) (.pure v) st
      | some (.ins _ fs) => M.opt (fs.lookup ("value" : Str)) st
      | _ => .bad) (Vq X.K Q) := h
    rw [ho] at h
    cases o with
    | exc c v =>
      obtain ⟨⟨i, hi, hx⟩, d, y, q, qd, nd, r⟩ := q
      cases (show u = Value.ref (φ b) from rx)
      obtain ⟨_, h⟩ := Sat.guard h
      obtain ⟨mA, hn, hr⟩ := exd_at I1.hok qd
      obtain ⟨oD, ho, hl⟩ := lookIn_ns hn
      obtain ⟨u, hu, ru⟩ := RelO.some_of (v := y) (o := mA "value") (hr "value")
      obtain ⟨t1, hoe⟩ := exo_at I1.hok q
      have E := KO.exk c i hi hx
      have J : PySem.W.InstAt s1.heap (φ b) _ (cAd X.K cl c) (some oD) := ⟨hoe, rfl, rfl, ho⟩
      exact HandSPX.exc_get I1.kIn J E.ga E.gg E.exC (PySem.W.findObj_own E.hdC (KO.val c i hi hx) rfl (by rw [hl, hu])) (handed_of ru) ⟨y, H1, I1.tok _, ru, q_pure S r h⟩
    | ins c fs => exact q.elim
    | _ => exact h.elim
  | _ => exact h.elim
end
end MP
end
section
set_option Elab.async false
set_option linter.all false
set_option maxRecDepth 100000
set_option maxHeartbeats 1000000
/-! MpH: repr; dict displays. -/
namespace MP
open PySem PySem.Spec PyProof.Rows L2

section
variable {X : Cx} {pins : List (Addr × Obj)} {σ : L2.St} {H : Hp} {s : Shared} {cl : List CI} {φ : Nat → Addr} {st : MP.St}
def ReadsN (h : Heap) (u : Value) (d : PyData) : Prop := ∃ as, Reads h u d as ∧ sysModules ∉ as
theorem readsAll_of {f : AV → Option PyData} {n : Nat} {h : Heap} {K : PySem.W.Frag} {φ : Nat → Addr} {H : Hp} (hf : ∀ v d x u, f v = some d → Rv K φ n H v x → RelV x u → ReadsN h u d) :
    ∀ {xs : List AV} {ds : List PyData} {vs : List V} {us : List Value}, mapO f xs = some ds → Rvs K φ n H xs vs → Vals vs us → ∃ as, ReadsAll h us ds as ∧ sysModules ∉ as
  | [], _, _, _, e, r, z => by
    cases e; cases r; cases z; exact ⟨_, .nil, by simp⟩
  | x :: xs, ds, _, _, e, r, z => by
    cases r with
    | cons r1 r2 =>
      cases z with
      | cons z1 z2 =>
        unfold mapO at e
        cases e1 : f x with
        | none => rw [e1] at e; cases e
        | some d =>
          cases e2 : mapO f xs with
          | none => rw [e1, e2] at e; cases e
          | some es =>
            rw [e1, e2] at e
            cases e
            obtain ⟨as, q1, n1⟩ := hf _ _ _ _ e1 r1 z1
            obtain ⟨bs, q2, n2⟩ := readsAll_of hf e2 r2 z2
            exact ⟨_, .cons q1 q2, by rw [List.mem_append]; exact fun h => h.elim n1 n2⟩
theorem reads_kv {f : AV → Option PyData} {n : Nat} {h : Heap} {K : PySem.W.Frag} {φ : Nat → Addr} {H : Hp} {P : Program} {w : World} (hf : ∀ v d x u, f v = some d → Rv K φ n H v x → RelV x u → ReadsN h u d) :
    ∀ {xs : List (Key × AV)} {ds : List (PyData × PyData)} {ks : List (Key × V)} {us : List (Key × Value)} {es : List DictEntry}, mapO (fun p : Key × AV => (f p.2).map fun d => (rdk p.1, d)) xs = some ds → Rks K φ n H xs ks → KV ks us → Pairs (mixKind P w) es us →
      ∃ as bs, ReadsAll h (es.map (·.key)) (ds.map (·.1)) as ∧ ReadsAll h (es.map (·.val)) (ds.map (·.2)) bs ∧ sysModules ∉ as ∧ sysModules ∉ bs
  | [], _, _, _, _, e, r, z, p => by
    cases e; cases r; cases z; cases p; exact ⟨_, _, .nil, .nil, by simp, by simp⟩
  | x :: xs, ds, _, _, _, e, r, z, p => by
    cases r with
    | @cons k x v xs vs r1 r2 =>
      cases z with
      | @cons _ q _ us z1 z2 =>
        cases p with
        | @cons en _ es _ p1 p2 p3 =>
          unfold mapO at e
          cases e1 : f x with
          | none => simp only [e1] at e; cases e
          | some d =>
            cases e2 : mapO (fun p : Key × AV => (f p.2).map fun d => (rdk p.1, d)) xs with
            | none => simp only [e1, e2] at e; cases e
            | some es' =>
              simp only [e1, e2, Option.map_some] at e
              cases e
              obtain ⟨as, q1, n1⟩ := hf _ _ _ _ e1 r1 z1.2
              obtain ⟨as', bs', qa, qb, na, nb⟩ := reads_kv hf e2 r2 z2 p3
              have hk : Reads h en.key (rdk k) [] := by
                have p1' : keyIs q.1 en.key = true := p1
                rw [← z1.1] at p1'
                rcases keyIs_shape p1' with ⟨i, t, e, e'⟩ | ⟨y, t, e, e'⟩
                · rw [e']; have e : k = Sum.inl i := e; rw [e]; exact .int i t
                · rw [e']; have e : k = Sum.inr y := e; rw [e]; exact .str y t
              have hv : Reads h en.val d as := by rw [p2]; exact q1
              exact ⟨_, _, .cons hk qa, .cons hv qb, by simpa using na, by rw [List.mem_append]; exact fun h => h.elim n1 nb⟩
theorem reads_of (I : Inv X pins σ H s) (S : Sim X.K cl φ st H) (sm : H sysModules = none) : ∀ (n : Nat) (v : AV) (d : PyData) (x : V) (u : Value), rdx st n v = some d → Rv X.K φ st.n H v x → RelV x u → ReadsN s.heap u d
  | 0, _, _, _, _, e, _, _ => by cases e
  | n + 1, v, d, x, u, e, r, z => by
    cases r with
    | non => cases e; cases (show u = Value.none from z); exact ⟨_, .none, by simp⟩
    | bl b => cases e; cases (show u = Value.bool b from z); exact ⟨_, .bool b, by simp⟩
    | int i => cases e; obtain ⟨t, rfl⟩ := z; exact ⟨_, .int i t, by simp⟩
    | str y => cases e; obtain ⟨t, rfl⟩ := z; exact ⟨_, .str y t, by simp⟩
    | @tup xs p vs hp rs =>
      obtain ⟨ds, e1, rfl⟩ := Option.map_eq_some_iff.mp (show (mapO (rdx st n) xs).map PyData.tuple = some d from e)
      cases (show u = Value.ref p from z)
      obtain ⟨its, rv, ⟨o, ho, hc, m, hd⟩, _⟩ := I.tuple hp
      obtain ⟨as, hr, hn⟩ := readsAll_of (reads_of I S sm n) e1 rs rv
      exact ⟨_, .tuple ho hc hd hr, hn⟩
    | @ref a ha =>
      cases (show u = Value.ref (φ a) from z)
      have sma : ∀ {o : HO}, H (φ a) = some o → sysModules ≠ φ a := fun h q => by rw [← q, sm] at h; cases h
      replace e : (match st.g a with
        | some (.lst xs) => (mapO (rdx st n) xs).map .list
        | some (.flst xs) => (mapO (rdx st n) xs).map .list
        | some (.dic kvs) => (mapO (fun p : Key × AV => (rdx st n p.2).map fun d => (rdk p.1, d)) kvs).map .dict
        | _ => none) = some d := e
      split at e
      · rename_i xs ea
        obtain ⟨ds, e1, rfl⟩ := Option.map_eq_some_iff.mp e
        obtain ⟨vs, h1, h2⟩ := S.obj a _ ea
        obtain ⟨its, rv, ⟨o, m, ho, hc, _, hd⟩, _⟩ := I.list (.inl (.inl h1))
        obtain ⟨as, hr, hn⟩ := readsAll_of (reads_of I S sm n) e1 h2 rv
        exact ⟨_, .list ho hc hd hr, fun h => by rcases List.mem_cons.mp h with h | h; exact sma h1 h; exact hn h⟩
      · rename_i xs ea
        obtain ⟨ds, e1, rfl⟩ := Option.map_eq_some_iff.mp e
        obtain ⟨ob, vs, h1, h2⟩ := S.obj a _ ea
        obtain ⟨its, rv, ⟨o, m, ho, hc, _, hd⟩, _⟩ := I.list (.inl (.inr ⟨ob, h1⟩))
        obtain ⟨as, hr, hn⟩ := readsAll_of (reads_of I S sm n) e1 h2 rv
        exact ⟨_, .list ho hc hd hr, fun h => by rcases List.mem_cons.mp h with h | h; exact sma h1 h; exact hn h⟩
      · rename_i kvs ea
        obtain ⟨ds, e1, rfl⟩ := Option.map_eq_some_iff.mp e
        obtain ⟨ks, h1, h2⟩ := S.obj a _ ea
        obtain ⟨_, _, vs, rel, o, es, ep, ho, ⟨hc, _⟩, hd, _, pr, _⟩ := I.hok _ _ h1
        obtain ⟨as, bs, qa, qb, na, nb⟩ := reads_kv (reads_of I S sm n) e1 h2 rel pr
        refine ⟨_, .dict ho hc hd qa qb, fun h => ?_⟩
        rcases List.mem_cons.mp (show sysModules ∈ φ a :: (as ++ bs) from h) with h | h
        · exact sma h1 h
        · exact (List.mem_append.mp h).elim na nb
      · cases e
theorem sm_none (KO : KOk X.prog X.K X.mg X.base cl) (I : Inv X pins σ H s) : H sysModules = none := by
  obtain ⟨o, h⟩ := KO.sm
  exact (I.bs _ _ h).2
theorem bi_repr (KO : KOk X.prog X.K X.mg X.base cl) (hg : X.A.guards = some []) (hu : X.A.units + 100 < cLine) : CallR X (.builtin "repr") (RCall X.K cl (biA .repr)) := by
  intro pins s σ H xs us Q I r h
  obtain ⟨φ, st, vs, S, ra, h⟩ := h
  have heap : ∀ {v : AV} {p : Addr}, Rv X.K φ st.n H v (.ref p) → Sat X.K cl φ st.n H (match rdx st 20 v with
      | some d => M.guard (d.showable && (decide (d.shown.length ≤ line) && decide (d.depth ≤ 60))) (.pure (.str d.shown)) st
      | none => .bad) (Vq X.K Q) → wpAny (model X.prog X.w) X.A (call (.builtin "repr") [.ref p]) (EP X pins σ Q) X.xe s := by
    intro v p rv h
    cases e : rdx st 20 v with
    | none => rw [e] at h; exact h.elim
    | some d =>
      rw [e] at h
      obtain ⟨hgd, h⟩ := Sat.guard h
      rw [Bool.and_eq_true, Bool.and_eq_true] at hgd
      obtain ⟨g1, g2, g3⟩ := hgd
      have g2 := of_decide_eq_true g2
      have g3 := of_decide_eq_true g3
      obtain ⟨as, hr, hn⟩ := reads_of I S (sm_none KO I) 20 v d _ _ e rv (show RelV (.ref p) (.ref p) from rfl)
      refine repr_of_reads' hr g1 (fun _ => hn) hg (by omega) (fun _ _ e => e) (fun h' u tk hk => ?_) (by rw [line_eq]; exact g2)
      exact ⟨.str d.shown, H, I.kept hk, ⟨u, rfl⟩, q_pure S (.str _) h⟩
  match vs, ra, h with
  | [.non], ra, h =>
    obtain ⟨y, rfl, r1⟩ := ra.one
    cases r1
    obtain ⟨u, rfl, ru⟩ := vals1 r
    cases (show u = Value.none from ru)
    exact PySem.P.repr_of_none ⟨.str _, H, I.tok _, ⟨_, rfl⟩, q_pure S (.str _) h⟩
  | [.bl b], ra, h =>
    obtain ⟨y, rfl, r1⟩ := ra.one
    cases r1
    obtain ⟨u, rfl, ru⟩ := vals1 r
    cases (show u = Value.bool b from ru)
    refine PySem.P.repr_of_bool ⟨.str (if b then PySem.Str.ofString "True" else PySem.Str.ofString "False"), H, I.tok _, ⟨s.toks, ?_⟩, q_pure S (.str _) h⟩
    cases b <;> rfl
  | [.int i], ra, h =>
    obtain ⟨y, rfl, r1⟩ := ra.one
    cases r1
    obtain ⟨u, rfl, t, rfl⟩ := vals1 r
    obtain ⟨hgd, h⟩ := Sat.guard h
    exact PySem.P.repr_of_int (of_decide_eq_true hgd) ⟨.str _, H, I.tok _, ⟨_, rfl⟩, q_pure S (.str _) h⟩
  | [.str z], ra, h =>
    obtain ⟨y, rfl, r1⟩ := ra.one
    cases r1
    obtain ⟨u, rfl, t, rfl⟩ := vals1 r
    obtain ⟨hgd, h⟩ := Sat.guard h
    exact PySem.P.repr_of_str ⟨.str _, H, I.tok _, ⟨_, rfl⟩, q_pure S (.str _) h⟩ (by rw [line_eq]; exact of_decide_eq_true hgd)
  | [.tup ys], ra, h =>
    obtain ⟨y, rfl, r1⟩ := ra.one
    obtain ⟨u, rfl, ru⟩ := vals1 r
    cases r1 with
    | @tup _ p ws hp rs =>
      cases (show u = Value.ref p from ru)
      exact heap (.tup hp rs) h
  | [.ref a], ra, h =>
    obtain ⟨y, rfl, r1⟩ := ra.one
    obtain ⟨u, rfl, ru⟩ := vals1 r
    cases r1 with
    | ref ha =>
      cases (show u = Value.ref (φ a) from ru)
      exact heap (.ref ha) h
  | [], _, h => exact h.elim
  | x :: _ :: _, _, h => exact absurd h (by cases x <;> exact id)

/-! ### dict displays -/
/-- the argument trees of a display, in pairs -/
inductive PairE (cl : List CI) (C : Calls) (K : PySem.W.Frag) : E → List (TE × TE) → Prop where
  | nil : PairE cl C K .nil []
  | cons {k v r : E} {tr : List (TE × TE)} (h : PairE cl C K r tr) : PairE cl C K (.cons k (.cons v r)) ((TEv K cl C k, TEv K cl C v) :: tr)
theorem key_rel {K : PySem.W.Frag} {φ : Nat → Addr} {n : Nat} {H : Hp} {v : AV} {k : Key} {x : V} (e : keyA v = some k) (r : Rv K φ n H v x) : x = kV k := by
  cases r with
  | int i => cases e; rfl
  | str y => cases e; rfl
  | _ => cases e
theorem pairs_rel {K : PySem.W.Frag} {φ : Nat → Addr} {n : Nat} {H : Hp} : ∀ {vs : List AV} {kvs : List (Key × AV)} {ps : List (V × V)}, pairsA vs = some kvs → Rvs K φ n H vs (ps.flatMap fun p => [p.1, p.2]) → ∃ ks, ps = ks.map (fun kv => (kV kv.1, kv.2)) ∧ Rks K φ n H kvs ks
  | [], kvs, ps, e, r => by
    cases e
    cases ps with
    | nil => exact ⟨[], rfl, .nil⟩
    | cons p ps => cases r
  | [v], _, _, e, _ => by cases e
  | k :: v :: vs, kvs, ps, e, r => by
    cases ps with
    | nil => cases r
    | cons p ps =>
      rw [List.flatMap_cons] at r
      cases r with
      | cons r1 r =>
        cases r with
        | cons r2 r =>
          unfold pairsA at e
          cases e1 : keyA k with
          | none => rw [e1] at e; cases e
          | some kk =>
            cases e2 : pairsA vs with
            | none => rw [e1, e2] at e; cases e
            | some kvs' =>
              rw [e1, e2] at e
              cases e
              obtain ⟨ks, rfl, q⟩ := pairs_rel e2 r
              have z := key_rel e1 r1
              obtain ⟨p1, p2⟩ := p
              cases z
              exact ⟨(kk, p2) :: ks, rfl, .cons r2 q⟩
theorem any_rks {K : PySem.W.Frag} {φ : Nat → Addr} {n : Nat} {H : Hp} {k : Key} : ∀ {a : List (Key × AV)} {b : List (Key × V)}, Rks K φ n H a b → (a.any fun kv => decide (kv.1 = k)) = (b.any fun kv => decide (kv.1 = k))
  | _, _, .nil => rfl
  | _, _, .cons _ r => by rw [List.any_cons, List.any_cons, any_rks r]
theorem rks_put {K : PySem.W.Frag} {φ : Nat → Addr} {n : Nat} {H : Hp} {k : Key} {v : AV} {x : V} (rv : Rv K φ n H v x) {a : List (Key × AV)} {b : List (Key × V)} (r : Rks K φ n H a b) : Rks K φ n H (putD a k v) (putK b k x) := by
  have app : ∀ {a : List (Key × AV)} {b : List (Key × V)}, Rks K φ n H a b → Rks K φ n H (a ++ [(k, v)]) (b ++ [(k, x)]) := by
    intro a b r
    induction r with
    | nil => exact .cons rv .nil
    | cons h _ ih => exact .cons h ih
  have mp : ∀ {a : List (Key × AV)} {b : List (Key × V)}, Rks K φ n H a b → Rks K φ n H (a.map fun kv => if kv.1 = k then (kv.1, v) else kv) (b.map fun kv => if kv.1 = k then (kv.1, x) else kv) := by
    intro a b r
    induction r with
    | nil => exact .nil
    | @cons k' x' v' xs vs h _ ih =>
      rw [List.map_cons, List.map_cons]
      by_cases e : k' = k
      · rw [if_pos e, if_pos e]; exact .cons rv ih
      · rw [if_neg e, if_neg e]; exact .cons h ih
  unfold putD putK
  rw [any_rks r]
  by_cases e : (b.any fun kv => decide (kv.1 = k)) = true
  · rw [if_pos e, if_pos e]; exact mp r
  · rw [if_neg e, if_neg e]; exact app r
theorem rks_merge {K : PySem.W.Frag} {φ : Nat → Addr} {n : Nat} {H : Hp} : ∀ {m : List (Key × AV)} {m' : List (Key × V)} {a : List (Key × AV)} {b : List (Key × V)}, Rks K φ n H m m' → Rks K φ n H a b → Rks K φ n H (mergeA a m) (mergeK b m')
  | _, _, _, _, .nil, r => r
  | _, _, a, b, .cons (k := k) (x := x) (v := v) (xs := xs) (vs := vs) h q, r => by
    show Rks K φ n H (mergeA (putD a k x) xs) (mergeK (putK b k v) vs)
    exact rks_merge q (rks_put h r)
theorem Rks.length {K : PySem.W.Frag} {φ : Nat → Addr} {n : Nat} {H : Hp} : ∀ {a : List (Key × AV)} {b : List (Key × V)}, Rks K φ n H a b → a.length = b.length
  | _, _, .nil => rfl
  | _, _, .cons _ r => congrArg Nat.succ (Rks.length r)
theorem tav_cons {C : Calls} {a r : E} {σ : L2.St} {Q : List V → Hp → Prop} (h : TAv X.K cl C (.cons a r) σ H Q) : TEv X.K cl C a σ H fun x H1 => TAv X.K cl C r σ H1 fun xs H2 => Q (x :: xs) H2 := by
  obtain ⟨φ, st, env, S, R, h⟩ := h
  refine (TEv.step S R (show Sat X.K cl φ st.n H (M.bind ((den cl C a).v env) (fun x => M.bind ((den cl C r).l env) fun xs => M.pure (x :: xs)) st) _ from h)).mono fun x H1 ⟨φ1, st1, v, g1, S1, rx, R1, h1⟩ => ?_
  exact (TAv.step S1 R1 h1).mono fun xs H2 ⟨φ2, st2, vs, g2, S2, rs, R2, h3⟩ => (Sat.here S2 h3) _ (.cons (rx.grow S1 g2) rs)
theorem tav_nil {C : Calls} {σ : L2.St} {Q : List V → Hp → Prop} (h : TAv X.K cl C .nil σ H Q) : Q [] H := by
  obtain ⟨φ, st, env, S, R, h⟩ := h
  exact (Sat.here S (show Sat X.K cl φ st.n H (.ok [] st) _ from h)) _ .nil
theorem tpairs_of {C : Calls} {σ : L2.St} : ∀ {es : E} {tr : List (TE × TE)}, PairE cl C X.K es tr → ∀ {H : Hp} {Q : List (V × V) → Hp → Prop}, TAv X.K cl C es σ H (fun xs H' => ∀ ps, xs = ps.flatMap (fun p : V × V => [p.1, p.2]) → Q ps H') → tPairs tr σ H Q
  | _, _, .nil, H, Q, h => tav_nil h [] rfl
  | _, _, .cons q, H, Q, h => (tav_cons h).mono fun x H1 h1 => (tav_cons h1).mono fun y H2 h2 => tpairs_of q (h2.mono fun xs H3 h3 ps e => h3 ((x, y) :: ps) (by rw [List.flatMap_cons, ← e]; rfl))
theorem dicP_eq (a : Nat) (vs : List AV) (st : MP.St) : dicP (.ref a) vs st = (match st.g a with
    | some (.dic []) => match pairsA vs with
      | some kvs => M.guard (decide (kvs.length ≤ 15)) (fun s => .ok (.ref a) (s.set a (.dic (mergeA [] kvs)))) st
      | none => .bad
    | _ => .bad) := rfl
theorem tev_dic {C : Calls} {es : E} {tr : List (TE × TE)} {σ : L2.St} {Q : VK} (hp : PairE cl C X.K es tr) (h : TEv X.K cl C (.dic es) σ H Q) : tDisp tr σ H Q := by
  intro p hn
  obtain ⟨φ, st, env, S, R, h⟩ := h
  have g := grow_new (φ := φ) (n := st.n) (o := .dK []) hn
  have S1 : Sim X.K cl (ext φ st.n p) (st.push (.dic [])) (upd H p (.dK [])) := S.new hn ⟨[], upd_same, .nil⟩
  have R1 := R.grow S g
  have h1 := Sat.bind (show Sat X.K cl φ st.n H (M.bind (M.new (.dic [])) (fun r => M.bind ((den cl C es).l env) fun vs => dicP r vs) st) _ from h)
  have h2 := h1 (ext φ st.n p) (upd H p (.dK [])) g S1
  refine tpairs_of hp ((TAv.step S1 R1 h2).mono fun xs H2 ⟨φ2, st2, vs, g2, S2, rs, R2, h3⟩ ps e => ?_)
  have e2 : φ2 st.n = p := by rw [g2.same st.n (Nat.lt_succ_self _), ext_new]
  rw [dicP_eq] at h3
  split at h3
  · rename_i ea
    cases e3 : pairsA vs with
    | none => rw [e3] at h3; exact h3.elim
    | some kvs =>
      rw [e3] at h3
      obtain ⟨hg, h3⟩ := Sat.guard h3
      rw [e] at rs
      obtain ⟨ks, rfl, rk⟩ := pairs_rel e3 rs
      obtain ⟨ks0, q1, q2⟩ := S2.obj _ _ ea
      cases q2
      rw [e2] at q1
      refine ⟨q1, ks, rfl, by rw [← rk.length]; exact of_decide_eq_true hg, ?_⟩
      have la := S2.lt _ _ ea
      have gs := grow_set (o := .dK (mergeK [] ks)) S2 la
      have S3 : Sim X.K cl φ2 (st2.set st.n (.dic (mergeA [] kvs))) (upd H2 (φ2 st.n) (.dK (mergeK [] ks))) := S2.set la ⟨mergeK [] ks, upd_same, (rks_merge rk .nil).grow S2 gs⟩
      have z := h3 φ2 _ gs S3 _ (.ref la)
      rw [e2] at z
      exact z
  · exact h3.elim
end
end MP
end
section
set_option Elab.async false
set_option linter.all false
set_option maxRecDepth 100000
set_option maxHeartbeats 1000000
/-! MpI: truths, connectives, what is walked, comprehensions. -/
namespace MP
open PySem PySem.Spec PyProof.Rows L2

section
variable {K : PySem.W.Frag} {cl : List CI} {C : Calls} {φ φ' : Nat → Addr} {n n' : Nat} {H H' : Hp} {st st' : MP.St} {env : Env} {σ : L2.St}
theorem truV_of {a : AV} {x : V} {F : Bool → (Nat → Addr) → MP.St → Hp → Prop} (S : Sim K cl φ st H) (ra : Rv K φ st.n H a x) (h : Sat K cl φ st.n H (truA a st) F) : ∃ k, TruV K x H k ∧ F k φ st H := by
  cases ra with
  | non => exact ⟨false, rfl, Sat.here S h⟩
  | bl b => exact ⟨b, rfl, Sat.here S h⟩
  | int i => exact ⟨_, rfl, Sat.here S h⟩
  | str y =>
    obtain ⟨hg, h⟩ := Sat.guard h
    exact ⟨_, ⟨by rw [line_eq]; exact of_decide_eq_true hg, rfl⟩, Sat.here S h⟩
  | @tup xs p vs hp rs =>
    refine ⟨!xs.isEmpty, .inr (.inl ⟨vs, hp, ?_⟩), Sat.here S h⟩
    cases rs <;> rfl
  | @ref a ha =>
    replace h : Sat K cl φ st.n H (match st.g a with
      | some (.lst xs) => .ok (!xs.isEmpty) st
      | some (.flst xs) => .ok (!xs.isEmpty) st
      | _ => .bad) F := h
    split at h
    · rename_i xs ea
      obtain ⟨vs, h1, h2⟩ := S.obj a _ ea
      refine ⟨!xs.isEmpty, .inl ⟨vs, .inl (.inl h1), ?_⟩, Sat.here S h⟩
      cases h2 <;> rfl
    · rename_i xs ea
      obtain ⟨o, vs, h1, h2⟩ := S.obj a _ ea
      refine ⟨!xs.isEmpty, .inl ⟨vs, .inl (.inr ⟨o, h1⟩), ?_⟩, Sat.here S h⟩
      cases h2 <;> rfl
    · exact h.elim
theorem tt_val {m : E} (hm : ∀ env, (den cl C m).t env = tru ((den cl C m).v env)) {Q : Bool → Hp → Prop} (h : TTv K cl C m σ H Q) : TEv K cl C m σ H fun x H1 => ∃ k, TruV K x H1 k ∧ Q k H1 := by
  obtain ⟨φ, st, env, S, R, h⟩ := h
  rw [hm] at h
  exact (TEv.step S R h).mono fun x H1 ⟨φ1, st1, v, g1, S1, rx, R1, h1⟩ => truV_of S1 rx h1
theorem bind_ok {α β : Type} {m : M α} {k : α → M β} {s s' : MP.St} {v : β} (h : M.bind m k s = .ok v s') : ∃ a s1, m s = .ok a s1 ∧ k a s1 = .ok v s' := by
  unfold M.bind at h
  cases e : m s with
  | bad => rw [e] at h; cases h
  | ok a s1 => rw [e] at h; exact ⟨a, s1, rfl, h⟩
/-- a test that is a comparison -/
theorem cmp_bool {o : COp} {a b : E} {v : AV} {s s' : MP.St} (h : (den cl C (.cmp o a b)).v env s = .ok v s') : ∃ k, v = .bl k := by
  change (M.bind ((den cl C a).v env) fun x => M.bind ((den cl C b).v env) fun y => M.bind (opC o x y) fun r => M.pure (.bl r)) s = .ok v s' at h
  obtain ⟨x, s1, _, h⟩ := bind_ok h
  obtain ⟨y, s2, _, h⟩ := bind_ok h
  obtain ⟨r, s3, _, h⟩ := bind_ok h
  cases h
  exact ⟨r, rfl⟩
theorem sat_known {α : Type} {m : M α} {F : α → (Nat → Addr) → MP.St → Hp → Prop} (h : Sat K cl φ n H (m st) F) : Sat K cl φ n H (m st) fun v φ' st' H' => m st = .ok v st' ∧ F v φ' st' H' := by
  cases e : m st with
  | bad => rw [e] at h; exact h
  | ok v st1 =>
    rw [e] at h
    exact fun φ' H' g S => ⟨rfl, h φ' H' g S⟩
theorem tt_cmp {o : COp} {a b : E} {Q : Bool → Hp → Prop} (h : TTv K cl C (.cmp o a b) σ H Q) : TEv K cl C (.cmp o a b) σ H fun x H1 => ∃ k, x = .bl k ∧ Q k H1 := by
  obtain ⟨φ, st, env, S, R, h⟩ := h
  have h := sat_known (Sat.bind (show Sat K cl φ st.n H (M.bind ((den cl C (.cmp o a b)).v env) truA st) _ from h))
  refine ⟨φ, st, env, S, R, h.mono fun v φ1 st1 H1 g1 S1 q x rx => ?_⟩
  obtain ⟨e, q⟩ := q
  obtain ⟨k, rfl⟩ := cmp_bool e
  cases rx
  exact ⟨k, rfl, Sat.here S1 q⟩
theorem sat_ite {α : Type} {k : Bool} {a b : M α} {F : α → (Nat → Addr) → MP.St → Hp → Prop} (h : Sat K cl φ st.n H (iteM k a b st) F) : if k = true then Sat K cl φ st.n H (a st) F else Sat K cl φ st.n H (b st) F := by
  cases k with
  | true => rw [if_pos rfl]; exact h
  | false => rw [if_neg Bool.false_ne_true]; exact h
theorem tt_and {a b : E} {Q : Bool → Hp → Prop} (h : TTv K cl C (.and a b) σ H Q) : tAnd (TTv K cl C a) (TTv K cl C b) σ H Q := by
  obtain ⟨φ, st, env, S, R, h⟩ := h
  refine (TTv.step S R (show Sat K cl φ st.n H (M.bind ((den cl C a).t env) (fun k => iteM k ((den cl C b).t env) (.pure false)) st) _ from h)).mono fun k H1 ⟨φ1, st1, g1, S1, R1, h1⟩ => ?_
  have h2 := sat_ite h1
  by_cases e : k = true
  · rw [if_pos e] at h2 ⊢; exact ⟨φ1, st1, env, S1, R1, h2⟩
  · rw [if_neg e] at h2 ⊢; exact Sat.here S1 h2
theorem tt_or {a b : E} {Q : Bool → Hp → Prop} (h : TTv K cl C (.or a b) σ H Q) : tOr (TTv K cl C a) (TTv K cl C b) σ H Q := by
  obtain ⟨φ, st, env, S, R, h⟩ := h
  refine (TTv.step S R (show Sat K cl φ st.n H (M.bind ((den cl C a).t env) (fun k => iteM k (.pure true) ((den cl C b).t env)) st) _ from h)).mono fun k H1 ⟨φ1, st1, g1, S1, R1, h1⟩ => ?_
  have h2 := sat_ite h1
  by_cases e : k = true
  · rw [if_pos e] at h2 ⊢; exact Sat.here S1 h2
  · rw [if_neg e] at h2 ⊢; exact ⟨φ1, st1, env, S1, R1, h2⟩
theorem tt_not {a : E} {Q : Bool → Hp → Prop} (h : TTv K cl C (.not a) σ H Q) : tNot (TTv K cl C a) σ H Q := by
  obtain ⟨φ, st, env, S, R, h⟩ := h
  exact (TTv.step S R (show Sat K cl φ st.n H (M.bind ((den cl C a).t env) (fun k => .pure (!k)) st) _ from h)).mono fun k H1 ⟨φ1, st1, g1, S1, R1, h1⟩ => Sat.here S1 h1
/-- behind a value that is a truth -/
theorem bl_step {α : Type} {v : AV} {x : V} {k : Bool → M α} {F : α → (Nat → Addr) → MP.St → Hp → Prop} (rx : Rv K φ st.n H v x) (h : Sat K cl φ st.n H (M.bind (blA v) k st) F) : ∃ c, x = .bl c ∧ Sat K cl φ st.n H (k c st) F := by
  cases rx with
  | bl c => exact ⟨c, rfl, h⟩
  | _ => exact h.elim
theorem te_and {a b : E} {Q : VK} (h : TEv K cl C (.and a b) σ H Q) : tAndV (TEv K cl C a) (TEv K cl C b) σ H Q := by
  obtain ⟨φ, st, env, S, R, h⟩ := h
  refine (TEv.step S R (show Sat K cl φ st.n H (M.bind ((den cl C a).v env) (fun x => M.bind (blA x) fun k => iteM k ((den cl C b).v env) (.pure (.bl false))) st) _ from h)).mono fun x H1 ⟨φ1, st1, v, g1, S1, rx, R1, h1⟩ => ?_
  obtain ⟨c, rfl, h1⟩ := bl_step rx h1
  refine ⟨c, rfl, ?_⟩
  have h2 := sat_ite h1
  by_cases e : c = true
  · rw [if_pos e] at h2 ⊢; exact ⟨φ1, st1, env, S1, R1, h2⟩
  · rw [if_neg e] at h2 ⊢; exact (Sat.here S1 h2) _ (.bl _)
theorem te_or {a b : E} {Q : VK} (h : TEv K cl C (.or a b) σ H Q) : tOrV (TEv K cl C a) (TEv K cl C b) σ H Q := by
  obtain ⟨φ, st, env, S, R, h⟩ := h
  refine (TEv.step S R (show Sat K cl φ st.n H (M.bind ((den cl C a).v env) (fun x => M.bind (blA x) fun k => iteM k (.pure (.bl true)) ((den cl C b).v env)) st) _ from h)).mono fun x H1 ⟨φ1, st1, v, g1, S1, rx, R1, h1⟩ => ?_
  obtain ⟨c, rfl, h1⟩ := bl_step rx h1
  refine ⟨c, rfl, ?_⟩
  have h2 := sat_ite h1
  by_cases e : c = true
  · rw [if_pos e] at h2 ⊢; exact (Sat.here S1 h2) _ (.bl _)
  · rw [if_neg e] at h2 ⊢; exact ⟨φ1, st1, env, S1, R1, h2⟩
theorem te_not {a : E} {Q : VK} (h : TEv K cl C (.not a) σ H Q) : tNotV (TEv K cl C a) σ H Q := by
  obtain ⟨φ, st, env, S, R, h⟩ := h
  refine (TEv.step S R (show Sat K cl φ st.n H (M.bind ((den cl C a).v env) (fun x => M.bind (blA x) fun k => M.pure (AV.bl (!k))) st) _ from h)).mono fun x H1 ⟨φ1, st1, v, g1, S1, rx, R1, h1⟩ => ?_
  obtain ⟨c, rfl, h1⟩ := bl_step rx h1
  exact ⟨c, rfl, (Sat.here S1 h1) _ (.bl _)⟩
theorem te_ite {c a b : E} {Q : VK} (h : TEv K cl C (.ite c a b) σ H Q) : tIf (TTv K cl C c) (TEv K cl C a) (TEv K cl C b) σ H Q := by
  obtain ⟨φ, st, env, S, R, h⟩ := h
  refine (TTv.step S R (show Sat K cl φ st.n H (M.bind ((den cl C c).t env) (fun k => iteM k ((den cl C a).v env) ((den cl C b).v env)) st) _ from h)).mono fun k H1 ⟨φ1, st1, g1, S1, R1, h1⟩ => ?_
  have h2 := sat_ite h1
  by_cases e : k = true
  · rw [if_pos e] at h2 ⊢; exact ⟨φ1, st1, env, S1, R1, h2⟩
  · rw [if_neg e] at h2 ⊢; exact ⟨φ1, st1, env, S1, R1, h2⟩

/-! ### what is walked -/
/-- the layer's loop for the machine's -/
inductive AJ (K : PySem.W.Frag) (φ : Nat → Addr) (n : Nat) (H : Hp) : AI → It → Prop where
  | lst {a : Nat} (h : a < n) : AJ K φ n H (.lst a) (Itl K (φ a))
  | fix {xs : List AV} {p : Addr} {vs : List V} (h : SqT K H p vs) (r : Rvs K φ n H xs vs) : AJ K φ n H (.fix xs) (Itt K p)
  | rng (lo : Int) (k : Nat) : AJ K φ n H (.rng lo k) (Itr lo k)
theorem AJ.grow {ai : AI} {J : It} (a : AJ K φ st.n H ai J) (S : Sim K cl φ st H) (g : Grow φ st.n H φ' n' H') : AJ K φ' n' H' ai J := by
  cases a with
  | lst h => rw [← g.same _ h]; exact .lst (Nat.lt_of_lt_of_le h g.le)
  | fix h r => exact .fix (S.tup g h) (r.grow S g)
  | rng lo k => exact .rng lo k
/-- an item of what is walked -/
theorem item_lst {a : Nat} {i : Nat} {st : MP.St} : AI.item st (.lst a) i = (lstOf st (.ref a)).map fun xs => xs[i]? := rfl
theorem aj_stop {ai : AI} {J : It} {i : Nat} (S : Sim K cl φ st H) (a : AJ K φ st.n H ai J) (e : ai.item st i = some none) : J.stop i H := by
  cases a with
  | @lst b h =>
    obtain ⟨xs, e1, e2⟩ := Option.map_eq_some_iff.mp (show (lstOf st (.ref b)).map (fun xs => xs[i]?) = some none from e)
    obtain ⟨vs, h1, h2⟩ := S.seq e1
    exact ⟨vs, h1, by rw [← h2.length]; exact List.getElem?_eq_none_iff.mp e2⟩
  | @fix xs p vs h r =>
    have e2 := Option.some.inj (show some xs[i]? = some none from e)
    exact ⟨vs, h, by rw [← r.length]; exact List.getElem?_eq_none_iff.mp e2⟩
  | rng lo k =>
    have e2 := Option.some.inj (show some (if i < k then some (AV.int (lo + i)) else none) = some none from e)
    by_cases z : i < k
    · rw [if_pos z] at e2; cases e2
    · exact Nat.le_of_not_lt z
theorem aj_go {ai : AI} {J : It} {i : Nat} {x : AV} (S : Sim K cl φ st H) (a : AJ K φ st.n H ai J) (e : ai.item st i = some (some x)) : J.go i H ∧ ∀ y H', J.yld i H y H' → H' = H ∧ Rv K φ st.n H x y := by
  cases a with
  | @lst b h =>
    obtain ⟨xs, e1, e2⟩ := Option.map_eq_some_iff.mp (show (lstOf st (.ref b)).map (fun xs => xs[i]?) = some (some x) from e)
    obtain ⟨vs, h1, h2⟩ := S.seq e1
    obtain ⟨v, e3, rv⟩ := h2.get e2
    refine ⟨⟨vs, v, h1, e3⟩, fun y H' ⟨q1, q2⟩ => ⟨q1, ?_⟩⟩
    have z := q2 vs h1
    rw [e3] at z
    cases z
    exact rv
  | @fix xs p vs h r =>
    have e2 := Option.some.inj (show some xs[i]? = some (some x) from e)
    obtain ⟨v, e3, rv⟩ := r.get e2
    refine ⟨⟨vs, v, h, e3⟩, fun y H' ⟨q1, q2⟩ => ⟨q1, ?_⟩⟩
    have z := q2 vs h
    rw [e3] at z
    cases z
    exact rv
  | rng lo k =>
    have e2 := Option.some.inj (show some (if i < k then some (AV.int (lo + i)) else none) = some (some x) from e)
    by_cases z : i < k
    · rw [if_pos z] at e2
      cases e2
      exact ⟨z, fun y H' ⟨q1, q2⟩ => ⟨q1, by rw [q2]; exact .int _⟩⟩
    · rw [if_neg z] at e2; cases e2
end
end MP
end
section
set_option Elab.async false
set_option linter.all false
set_option maxRecDepth 100000
set_option maxHeartbeats 1000000
/-! MpJ: targets; comprehensions. -/
namespace MP
open PySem PySem.Spec PyProof.Rows L2

section
variable {K : PySem.W.Frag} {cl : List CI} {C : Calls} {φ φ' φ1 : Nat → Addr} {n n' n1 : Nat} {H H' H1 : Hp} {st st' : MP.St} {env : Env} {σ : L2.St} {D : Addr}
/-! ### a list that the loop fills, not yet the machine's -/
theorem Grow.unt {o : HO} (g : Grow φ n H φ' n' H') (hu : ∀ a, a < n → φ a ≠ D) (hD : H D = some o) : ∀ a, a < n' → φ' a ≠ D := fun a ha => by
  by_cases z : a < n
  · rw [g.same a z]; exact hu a z
  · intro e
    have q := g.fresh a (by omega) ha
    rw [e, hD] at q; cases q
theorem Grow.tch {o : HO} (g : Grow φ1 n1 H1 φ' n' H) (hn : H1 D = none) : Grow φ1 n1 H1 φ' n' (upd H D o) where
  le := g.le
  same := g.same
  keep := fun b u h hu => by rw [upd_ne (ne_of_none h hn)]; exact g.keep b u h hu
  fresh := g.fresh
  mono := fun b h => by
    by_cases e : b = D
    · subst e; exact hn
    · rw [upd_ne e] at h; exact g.mono b h
theorem sqt_tch {p : Addr} {vs xs ys : List V} (hD : H D = some (.lst xs)) (h : SqT K H p vs) : SqT K (upd H D (.lst ys)) p vs := by
  rcases h with (h | ⟨o, h⟩) | h
  · exact .inl (.inl (by rw [upd_ne (ne_of h hD (by intro z; cases z))]; exact h))
  · exact .inl (.inr ⟨o, by rw [upd_ne (ne_of h hD (by intro z; cases z))]; exact h⟩)
  · exact .inr h
mutual
theorem Rv.tch {xs ys : List V} (hD : H D = some (.lst xs)) : ∀ {x : AV} {v : V}, Rv K φ n H x v → Rv K φ n (upd H D (.lst ys)) x v
  | _, _, .non => .non
  | _, _, .bl b => .bl b
  | _, _, .int i => .int i
  | _, _, .str x => .str x
  | _, _, .ref h => .ref h
  | _, _, .tup h r => .tup (sqt_tch hD h) (Rvs.tch hD r)
theorem Rvs.tch {xs ys : List V} (hD : H D = some (.lst xs)) : ∀ {as : List AV} {vs : List V}, Rvs K φ n H as vs → Rvs K φ n (upd H D (.lst ys)) as vs
  | _, _, .nil => .nil
  | _, _, .cons h r => .cons (Rv.tch hD h) (Rvs.tch hD r)
end
theorem Rks.tch {xs ys : List V} (hD : H D = some (.lst xs)) : ∀ {as : List (Key × AV)} {vs : List (Key × V)}, Rks K φ n H as vs → Rks K φ n (upd H D (.lst ys)) as vs
  | _, _, .nil => .nil
  | _, _, .cons h r => .cons (Rv.tch hD h) (Rks.tch hD r)
theorem Sim.tch {xs ys : List V} (S : Sim K cl φ st H) (hD : H D = some (.lst xs)) (hu : ∀ a, a < st.n → φ a ≠ D) : Sim K cl φ st (upd H D (.lst ys)) where
  obj := fun a o e => by
    have q := S.obj a o e
    have ne := hu a (S.lt a o e)
    cases o with
    | lst zs => obtain ⟨vs, q, r⟩ := q; exact ⟨vs, by rw [upd_ne ne]; exact q, r.tch hD⟩
    | flst zs => obtain ⟨o, vs, q, r⟩ := q; exact ⟨o, vs, by rw [upd_ne ne]; exact q, r.tch hD⟩
    | dic kvs => obtain ⟨ks, q, r⟩ := q; exact ⟨ks, by rw [upd_ne ne]; exact q, r.tch hD⟩
    | exc c v =>
      obtain ⟨hc, d, x, q, qd, nd, r⟩ := q
      refine ⟨hc, d, x, by rw [upd_ne ne]; exact q, ?_, nd, r.tch hD⟩
      rw [upd_ne (ne_of qd hD (by intro z; have z' : HO.ext _ = HO.lst xs := z; cases z'))]
      exact qd
    | exn c => obtain ⟨hc, q⟩ := q; exact ⟨hc, by rw [upd_ne ne]; exact q⟩
    | ins c fs => exact q.elim
  lt := S.lt
  all := S.all
  inj := S.inj
mutual
theorem Rv.ren (hs : ∀ a, a < n → φ' a = φ a) (hn : n ≤ n') : ∀ {x : AV} {v : V}, Rv K φ n H x v → Rv K φ' n' H x v
  | _, _, .non => .non
  | _, _, .bl b => .bl b
  | _, _, .int i => .int i
  | _, _, .str x => .str x
  | _, _, .ref h => by rw [← hs _ h]; exact .ref (Nat.lt_of_lt_of_le h hn)
  | _, _, .tup h r => .tup h (Rvs.ren hs hn r)
theorem Rvs.ren (hs : ∀ a, a < n → φ' a = φ a) (hn : n ≤ n') : ∀ {as : List AV} {vs : List V}, Rvs K φ n H as vs → Rvs K φ' n' H as vs
  | _, _, .nil => .nil
  | _, _, .cons h r => .cons (Rv.ren hs hn h) (Rvs.ren hs hn r)
end
theorem Rks.ren (hs : ∀ a, a < n → φ' a = φ a) (hn : n ≤ n') : ∀ {as : List (Key × AV)} {vs : List (Key × V)}, Rks K φ n H as vs → Rks K φ' n' H as vs
  | _, _, .nil => .nil
  | _, _, .cons h r => .cons (Rv.ren hs hn h) (Rks.ren hs hn r)
/-- the filled list becomes the machine's -/
theorem Sim.adopt {as : List AV} {acc : List V} (S : Sim K cl φ st H) (hD : H D = some (.lst acc)) (hu : ∀ a, a < st.n → φ a ≠ D) (r : Rvs K φ st.n H as acc) : Sim K cl (ext φ st.n D) (st.push (.lst as)) H where
  obj := fun a u h => by
    have hs : ∀ a, a < st.n → ext φ st.n D a = φ a := fun a h => ext_old h
    show ObjS K cl (ext φ st.n D) (st.n + 1) H (ext φ st.n D a) u
    have h' : (if a = st.n then some (AO.lst as) else st.g a) = some u := h
    by_cases e : a = st.n
    · subst e
      rw [if_pos rfl] at h'
      cases h'
      rw [ext_new]
      exact ⟨acc, hD, r.ren hs (Nat.le_succ _)⟩
    · rw [if_neg e] at h'
      have lt := S.lt a u h'
      rw [ext_old lt]
      have q := S.obj a u h'
      cases u with
      | lst zs => obtain ⟨vs, q, r⟩ := q; exact ⟨vs, q, r.ren hs (Nat.le_succ _)⟩
      | flst zs => obtain ⟨o, vs, q, r⟩ := q; exact ⟨o, vs, q, r.ren hs (Nat.le_succ _)⟩
      | dic kvs => obtain ⟨ks, q, r⟩ := q; exact ⟨ks, q, r.ren hs (Nat.le_succ _)⟩
      | exc c v =>
        obtain ⟨hc, d, x, q, qd, nd, r⟩ := q
        refine ⟨hc, d, x, q, qd, fun b hb => ?_, r.ren hs (Nat.le_succ _)⟩
        by_cases z : b < st.n
        · rw [ext_old z]; exact nd b z
        · have eb : b = st.n := by omega
          subst eb
          rw [ext_new]
          exact ne_of hD qd (by intro z; have z' : HO.ext _ = HO.lst acc := z.symm; cases z')
      | exn c => exact q
      | ins c fs => exact q.elim
  lt := fun a u h => by
    have h' : (if a = st.n then some (AO.lst as) else st.g a) = some u := h
    show a < st.n + 1
    by_cases e : a = st.n
    · omega
    · rw [if_neg e] at h'; have := S.lt a u h'; omega
  all := fun a h => by
    have h' : a < st.n + 1 := h
    by_cases e : a = st.n
    · exact ⟨.lst as, by show (if a = st.n then some (AO.lst as) else st.g a) = _; rw [if_pos e]⟩
    · obtain ⟨o, q⟩ := S.all a (by omega)
      exact ⟨o, by show (if a = st.n then some (AO.lst as) else st.g a) = _; rw [if_neg e]; exact q⟩
  inj := fun a b ha hb h => by
    have ha' : a < st.n + 1 := ha
    have hb' : b < st.n + 1 := hb
    by_cases e1 : a = st.n
    · by_cases e2 : b = st.n
      · omega
      · rw [e1, ext_new, ext_old (by omega)] at h
        exact absurd h.symm (hu b (by omega))
    · by_cases e2 : b = st.n
      · rw [e2, ext_new, ext_old (by omega)] at h
        exact absurd h (hu a (by omega))
      · rw [ext_old (by omega), ext_old (by omega)] at h
        exact S.inj a b (by omega) (by omega) h
theorem grow_adopt {φ0 : Nat → Addr} {n0 : Nat} {H0 : Hp} (g : Grow φ0 n0 H0 φ n H) (hn : H0 D = none) : Grow φ0 n0 H0 (ext φ n D) (n + 1) H where
  le := Nat.le_succ_of_le g.le
  same := fun a h => by rw [ext_old (Nat.lt_of_lt_of_le h g.le)]; exact g.same a h
  keep := g.keep
  fresh := fun a h1 h2 => by
    by_cases e : a = n
    · subst e; rw [ext_new]; exact hn
    · rw [ext_old (by omega)]; exact g.fresh a h1 (by omega)
  mono := g.mono

/-! ### targets -/
def gNs : List Nat → TGs
  | [] => gNil
  | i :: r => gCons (gName i) (gNs r)
def gT (K : PySem.W.Frag) (t : List Nat) : TG := match t with
  | [i] => gName i
  | t => gTup K t.length (gNs t)
def SameOff (t : List Nat) (σ σ' : L2.St) : Prop := σ'.length = σ.length ∧ ∀ i, i ∉ t → σ'[i]? = σ[i]?
theorem renv_set {i : Nat} {v : AV} {x : V} (R : Renv K φ n H env σ) (r : Rv K φ n H v x) : Renv K φ n H (env.set i (some v)) (σ.set i (some x)) := by
  obtain ⟨hl, h⟩ := R
  refine ⟨by rw [List.length_set, List.length_set]; exact hl, fun j u e => ?_⟩
  by_cases z : i = j
  · subst z
    by_cases zi : i < env.length
    · rw [List.getElem?_set_self zi] at e
      cases e
      exact ⟨x, List.getElem?_set_self (by omega), r⟩
    · rw [List.getElem?_eq_none (by rw [List.length_set]; omega)] at e
      cases e
  · rw [List.getElem?_set_ne z] at e ⊢
    exact h j u e
theorem gns_put : ∀ {t : List Nat} {xs : List AV} {vs : List V} {env : Env} {σ : L2.St} {Q : L2.St → Hp → Prop}, xs.length = t.length → Rvs K φ n H xs vs → Renv K φ n H env σ →
    (∀ σ', Renv K φ n H ((t.zip xs).foldl (fun e p => e.set p.1 (some p.2)) env) σ' → SameOff t σ σ' → Q σ' H) → gNs t vs σ H Q
  | [], [], _, env, σ, Q, _, r, R, h => by
    cases r
    exact ⟨rfl, h σ R ⟨rfl, fun _ _ => rfl⟩⟩
  | i :: t, x :: xs, _, env, σ, Q, hl, r, R, h => by
    cases r with
    | @cons _ v _ vs r1 r2 =>
      refine ⟨v, vs, rfl, gns_put (by simpa using hl) r2 (renv_set R r1) fun σ' R' so => h σ' R' ⟨by rw [so.1, List.length_set], fun j hj => ?_⟩⟩
      rw [so.2 j fun z => hj (List.mem_cons_of_mem _ z), List.getElem?_set_ne fun z => hj (by rw [z]; exact List.mem_cons_self ..)]
  | [], x :: xs, _, _, _, _, hl, _, _, _ => by simp at hl
  | i :: t, [], _, _, _, _, hl, _, _, _ => by simp at hl
theorem g_put {t : List Nat} {a : AV} {x : V} {env' : Env} {Q : L2.St → Hp → Prop} (r : Rv K φ n H a x) (R : Renv K φ n H env σ) (e : putT t a env = some env') (h : ∀ σ', Renv K φ n H env' σ' → SameOff t σ σ' → Q σ' H) : gT K t x σ H Q := by
  have tup : ∀ {t : List Nat}, tupPut t a env = some env' → (∀ σ', Renv K φ n H env' σ' → SameOff t σ σ' → Q σ' H) → gTup K t.length (gNs t) x σ H Q := by
    intro t e h
    cases r with
    | @tup xs p vs hp rs =>
      by_cases z : xs.length = t.length
      · replace e : (if xs.length = t.length then some ((t.zip xs).foldl (fun e p => e.set p.1 (some p.2)) env) else none) = some env' := e
        rw [if_pos z] at e
        cases e
        exact ⟨p, vs, rfl, hp, by rw [← rs.length, z], gns_put z rs R h⟩
      · replace e : (if xs.length = t.length then some ((t.zip xs).foldl (fun e p => e.set p.1 (some p.2)) env) else none) = some env' := e
        rw [if_neg z] at e
        cases e
    | _ => cases e
  match t, e, h with
  | [i], e, h =>
    cases e
    refine h _ (renv_set R r) ⟨List.length_set .., fun j hj => ?_⟩
    rw [List.getElem?_set_ne fun z => hj (by rw [z]; exact List.mem_cons_self ..)]
  | [], e, h => exact tup e h
  | i :: j :: t, e, h => exact tup e h
theorem wipe_get : ∀ (t : List Nat) (σ : L2.St) (i : Nat), (wipe σ t)[i]? = if i ∈ t then (if i < σ.length then some none else none) else σ[i]?
  | [], σ, i => by simp [wipe]
  | v :: t, σ, i => by
    show ((wipe σ t).set v none)[i]? = _
    by_cases e : v = i
    · subst e
      rw [if_pos (List.mem_cons_self ..)]
      by_cases z : v < σ.length
      · rw [if_pos z, List.getElem?_set_self (by rw [wipe_length]; exact z)]
      · rw [if_neg z, List.getElem?_eq_none (by rw [List.length_set, wipe_length]; omega)]
    · rw [List.getElem?_set_ne e, wipe_get t σ i]
      by_cases m : i ∈ t
      · rw [if_pos m, if_pos (List.mem_cons_of_mem _ m)]
      · rw [if_neg m, if_neg fun z => (List.mem_cons.mp z).elim (fun z => e z.symm) m]
theorem wipe_off {t : List Nat} {σ σ' : L2.St} (h : SameOff t (wipe σ t) σ') : wipe σ' t = wipe σ t := by
  have hl : σ'.length = σ.length := by rw [h.1, wipe_length]
  refine List.ext_getElem? fun i => ?_
  rw [wipe_get, wipe_get]
  by_cases m : i ∈ t
  · rw [if_pos m, if_pos m, hl]
  · rw [if_neg m, if_neg m, h.2 i m, wipe_get, if_neg m]
theorem renv_wipe : ∀ (t : List Nat) {env : Env} {σ : L2.St}, Renv K φ n H env σ → Renv K φ n H (wipeE env t) (wipe σ t)
  | [], _, _, R => R
  | v :: t, env, σ, R => by
    obtain ⟨hl, h⟩ := renv_wipe t R
    refine ⟨by show ((wipeE env t).set v none).length = ((wipe σ t).set v none).length; rw [List.length_set, List.length_set]; exact hl, fun i a e => ?_⟩
    have e : ((wipeE env t).set v none)[i]? = some (some a) := e
    show ∃ x, ((wipe σ t).set v none)[i]? = some (some x) ∧ _
    by_cases z : v = i
    · subst z
      by_cases zi : v < (wipeE env t).length
      · rw [List.getElem?_set_self zi] at e; cases e
      · rw [List.getElem?_eq_none (by rw [List.length_set]; omega)] at e; cases e
    · rw [List.getElem?_set_ne z] at e ⊢
      exact h i a e
end
end MP
end
section
set_option Elab.async false
set_option linter.all false
set_option maxRecDepth 100000
set_option maxHeartbeats 1000000
/-! MpK: what is walked; comprehensions. -/
namespace MP
open PySem PySem.Spec PyProof.Rows L2

/-- a list or a tuple that is walked -/
def iSeq (K : PySem.W.Frag) (tl : TE) : TI := fun σ H R => tl σ H fun x H1 => ∃ a, x = .ref a ∧ (((∃ xs, SqL K H1 a xs) ∧ R (Itl K a) H1) ∨ ((∃ xs, SqT K H1 a xs) ∧ R (Itt K a) H1))
theorem pi_seq {X : Cx} {tg l : Expr} {tl : TE} (hl : PE X l tl) : PI X tg l (iSeq X.K tl) := by
  refine ⟨fun pins s σ H R I h => ?_⟩
  refine thn (hl.run pins s σ H _ I h) fun v s1 ⟨x, H1, I1, r1, q1⟩ => ?_
  obtain ⟨a, e, q⟩ := q1
  subst e
  cases r1
  rcases q with ⟨⟨xs, hq⟩, q⟩ | ⟨⟨xs, hq⟩, q⟩
  · obtain ⟨its, rv, p, hz⟩ := I1.list hq
    refine wpAny_pyIter_list p.isList ?_
    refine ⟨s1.heap.objs.size, [s1.heap.objs.size], _, _, H1, rfl, I1.kept (t' := s1.toks) fun b o e => Heap.get?_push_of_some _ e, turn_list a _, ⟨_, Heap.get?_push_size _ rfl, rfl, rfl⟩, fun b hb => ?_, q⟩
    have e : b = s1.heap.objs.size := by simpa using hb
    subst e
    exact I1.fpOk (Nat.le_refl _) (I1.hok.fresh (Nat.le_refl _))
  · obtain ⟨its, rv, p, hz⟩ := I1.tuple hq
    refine wpAny_pyIter_tuple (show s1.heap.IsTuple a its.toArray from p) ?_
    refine ⟨s1.heap.objs.size, [s1.heap.objs.size], _, _, H1, rfl, I1.kept (t' := s1.toks) fun b o e => Heap.get?_push_of_some _ e, turn_tuple a _, ⟨_, Heap.get?_push_size _ rfl, rfl, rfl⟩, fun b hb => ?_, q⟩
    have e : b = s1.heap.objs.size := by simpa using hb
    subst e
    exact I1.fpOk (Nat.le_refl _) (I1.hok.fresh (Nat.le_refl _))
theorem PI.imp {X : Cx} {tg e : Expr} {t t' : TI} (h : PI X tg e t) (hq : ∀ σ H R, t' σ H R → t σ H R) : PI X tg e t' := ⟨fun pins s σ H R I q => h.run pins s σ H R I (hq σ H R q)⟩

def TIv (K : PySem.W.Frag) (cl : List CI) (C : Calls) (m : E) : TI := fun σ H R => ∃ φ st env, Sim K cl φ st H ∧ Renv K φ st.n H env σ ∧
  Sat K cl φ st.n H ((den cl C m).i env st) fun ai φ' st' H' => ∀ J, AJ K φ' st'.n H' ai J → R J H'
section
variable {K : PySem.W.Frag} {cl : List CI} {C : Calls} {φ φ' φ1 : Nat → Addr} {n n' n1 : Nat} {H H' H1 : Hp} {st st' : MP.St} {env : Env} {σ : L2.St} {D : Addr}
theorem ti_seq {m : E} (hm : ∀ env, (den cl C m).i env = .bind ((den cl C m).v env) iterV) {R : It → Hp → Prop} (h : TIv K cl C m σ H R) : iSeq K (TEv K cl C m) σ H R := by
  obtain ⟨φ, st, env, S, Re, h⟩ := h
  rw [hm] at h
  refine (TEv.step S Re h).mono fun x H1 ⟨φ1, st1, v, g1, S1, rx, R1, h1⟩ => ?_
  cases rx with
  | @ref b hb =>
    refine ⟨_, rfl, .inl ?_⟩
    replace h1 : Sat K cl φ1 st1.n H1 (match lstOf st1 (.ref b) with
      | some _ => .ok (.lst b) st1
      | none => .bad) fun ai φ' st' H' => ∀ J, AJ K φ' st'.n H' ai J → R J H' := h1
    cases e : lstOf st1 (.ref b) with
    | none => rw [e] at h1; exact h1.elim
    | some xs =>
      rw [e] at h1
      obtain ⟨vs, q1, _⟩ := S1.seq e
      exact ⟨⟨vs, q1⟩, (Sat.here S1 h1) _ (.lst hb)⟩
  | @tup xs p vs hp rs => exact ⟨p, rfl, .inr ⟨⟨vs, hp⟩, (Sat.here S1 h1) _ (.fix hp rs)⟩⟩
  | _ => exact h1.elim
theorem ti_rng {a : E} {R : It → Hp → Prop} (h : TIv K cl C (.rng a) σ H R) : iRng1 (tCons (TEv K cl C a) tNil) σ H R := by
  obtain ⟨φ, st, env, S, Re, h⟩ := h
  refine (TEv.step S Re (show Sat K cl φ st.n H (M.bind ((den cl C a).v env) rngA st) _ from h)).mono fun x H1 ⟨φ1, st1, v, g1, S1, rx, R1, h1⟩ => ?_
  cases rx with
  | int j =>
    obtain ⟨hg, h1⟩ := Sat.guard h1
    rw [Bool.and_eq_true] at hg
    exact ⟨j, rfl, of_decide_eq_true hg.1, of_decide_eq_true hg.2, (Sat.here S1 h1) _ (.rng 0 _)⟩
  | _ => exact h1.elim

theorem lcL_step {el : AV → M (Option AV)} {ai : AI} {m i : Nat} {s s' : MP.St} {rs : List AV} (h : lcL el ai m i s = .ok rs s') :
    (ai.item s i = some none ∧ rs = [] ∧ s' = s) ∨ ∃ x r s1 rs' m', m = m' + 1 ∧ ai.item s i = some (some x) ∧ el x s = .ok r s1 ∧ lcL el ai m' (i + 1) s1 = .ok rs' s' ∧ rs = r.toList ++ rs' := by
  cases m with
  | zero =>
    change (match ai.item s i with
      | some none => Out.ok [] s
      | _ => .bad) = .ok rs s' at h
    split at h
    · rename_i e; cases h; exact .inl ⟨e, rfl, rfl⟩
    · cases h
  | succ m =>
    change (match ai.item s i with
      | some none => Out.ok [] s
      | some (some x) => M.bind (el x) (fun r => M.bind (lcL el ai m (i + 1)) fun rs => .pure (r.toList ++ rs)) s
      | none => .bad) = .ok rs s' at h
    split at h
    · rename_i e; cases h; exact .inl ⟨e, rfl, rfl⟩
    · rename_i x e
      obtain ⟨r, s1, h1, h⟩ := bind_ok h
      obtain ⟨rs', s2, h2, h⟩ := bind_ok h
      cases h
      exact .inr ⟨x, r, s1, rs', m, rfl, e, h1, h2, rfl⟩
    · cases h
theorem lcE_ok {el : Env → M AV} {t : List Nat} {c : Env → M Bool} {env : Env} {x : AV} {r : Option AV} {s s' : MP.St} (h : lcE el t c env x s = .ok r s') :
    ∃ env2 k s1, putT t x (wipeE env t) = some env2 ∧ c env2 s = .ok k s1 ∧ ((k = true ∧ ∃ v, el env2 s1 = .ok v s' ∧ r = some v) ∨ (k = false ∧ r = none ∧ s' = s1)) := by
  change (match putT t x (wipeE env t) with
    | some env' => M.bind (c env') fun k => iteM k (.bind (el env') fun v => .pure (some v)) (.pure none)
    | none => .bad) s = .ok r s' at h
  cases e : putT t x (wipeE env t) with
  | none => rw [e] at h; cases h
  | some env2 =>
    rw [e] at h
    obtain ⟨k, s1, h1, h⟩ := bind_ok h
    refine ⟨env2, k, s1, rfl, h1, ?_⟩
    cases k with
    | true =>
      obtain ⟨v, s2, h2, h⟩ := bind_ok (show M.bind (el env2) (fun v => .pure (some v)) s1 = _ from h)
      cases h
      exact .inl ⟨rfl, v, h2, rfl⟩
    | false => cases h; exact .inr ⟨rfl, rfl, rfl⟩
theorem te_lc {el it c : E} {t : List Nat} {Q : VK} (h : TEv K cl C (.lc el t it c) σ H Q) : tLc (TIv K cl C it) (gT K t) (TTv K cl C c) (TEv K cl C el) t σ H Q := by
  obtain ⟨φ, st, env, S, Re, h⟩ := h
  refine ⟨φ, st, env, S, Re, (Sat.bind (show Sat K cl φ st.n H (M.bind ((den cl C it).i env) (fun ai => lcA (den cl C el).v t (den cl C c).t env ai) st) _ from h)).mono fun ai φ1 st1 H1 g1 S1 h1 J aj D hD => ?_⟩
  have R1 := Re.grow S g1
  change Sat K cl φ1 st1.n H1 (match ai.len st1 with
    | some n => M.bind (lcL (lcE (den cl C el).v t (den cl C c).t env) ai n 0) (fun vs => .guard (decide (vs.length ≤ line)) (.new (.lst vs))) st1
    | none => .bad) _ at h1
  cases el_ : ai.len st1 with
  | none => rw [el_] at h1; exact h1.elim
  | some m0 =>
    rw [el_] at h1
    change Sat K cl φ1 st1.n H1 (M.bind (lcL (lcE (den cl C el).v t (den cl C c).t env) ai m0 0) (fun vs => .guard (decide (vs.length ≤ line)) (.new (.lst vs))) st1) _ at h1
    cases e0 : lcL (lcE (den cl C el).v t (den cl C c).t env) ai m0 0 st1 with
    | bad => unfold M.bind at h1; rw [e0] at h1; exact h1.elim
    | ok rs stE =>
      unfold M.bind at h1
      rw [e0] at h1
      have h1 : Sat K cl φ1 st1.n H1 (M.guard (decide (rs.length ≤ line)) (.new (.lst rs)) stE) (Vq K Q) := h1
      have hz : rs.length ≤ line := by
        by_cases z : rs.length ≤ line
        · exact z
        · unfold M.guard at h1
          rw [decide_eq_false z] at h1
          exact h1.elim
      have h1 : Sat K cl φ1 st1.n H1 (M.new (.lst rs) stE) (Vq K Q) := by
        unfold M.guard at h1
        rw [decide_eq_true hz] at h1
        exact h1
      refine ⟨fun i m H => ∃ φ' st' done acc rs', Grow φ1 st1.n H1 φ' st'.n H ∧ Sim K cl φ' st' H ∧ (∀ a, a < st'.n → φ' a ≠ D) ∧ H D = some (.lst acc) ∧ Rvs K φ' st'.n H done acc ∧ lcL (lcE (den cl C el).v t (den cl C c).t env) ai m i st' = .ok rs' stE ∧ rs = done ++ rs', ⟨m0, ?_⟩, ?_⟩
      · exact ⟨φ1, st1, [], [], rs, grow_tup hD, S1.laid hD, fun a ha => S1.ne_new hD ha, upd_same, .nil, e0, rfl⟩
      · rintro i m H2 ⟨φ2, st2, done, acc, rs2, g2, S2, hu, hDa, rv, e2, er⟩
        have aj2 := aj.grow S1 g2
        rcases lcL_step e2 with ⟨ei, rfl, rfl⟩ | ⟨x, r, s3, rs3, m', rfl, ei, e3, e4, e5⟩
        · rw [List.append_nil] at er
          subst er
          refine .inl ⟨aj_stop S2 aj2 ei, ?_⟩
          have z : Rv K (ext φ2 stE.n D) (stE.n + 1) H2 (.ref stE.n) (.ref (ext φ2 stE.n D stE.n)) := .ref (Nat.lt_succ_self _)
          rw [ext_new] at z
          exact h1 _ _ (grow_adopt g2 hD) (S2.adopt hDa hu rv) _ z
        · obtain ⟨jgo, jy⟩ := aj_go S2 aj2 ei
          refine .inr ⟨jgo, fun H' => ∃ φ' st' done acc rs', Grow φ1 st1.n H1 φ' st'.n H' ∧ Sim K cl φ' st' H' ∧ (∀ a, a < st'.n → φ' a ≠ D) ∧ H' D = some (.lst acc) ∧ Rvs K φ' st'.n H' done acc ∧ lcL (lcE (den cl C el).v t (den cl C c).t env) ai m' (i + 1) st' = .ok rs' stE ∧ rs = done ++ rs', fun H' q => ⟨m', Nat.lt_succ_self _, q⟩, fun y H' hy => ?_⟩
          obtain ⟨rfl, ry⟩ := jy y H' hy
          obtain ⟨env2, k, s4, ep, ec, fin⟩ := lcE_ok e3
          refine g_put ry (renv_wipe t (R1.grow S1 g2)) ep fun σ2 R2 so => ⟨wipe_off so, ?_⟩
          refine ⟨φ2, st2, env2, S2, R2, ?_⟩
          rw [ec]
          intro φ3 H3 g3 S3
          have hu3 := g3.unt hu hDa
          have hD3 := g3.keep D _ hDa hu
          rcases fin with ⟨rfl, v, ev, rfl⟩ | ⟨rfl, rfl, rfl⟩
          · show (if true = true then _ else _)
            rw [if_pos rfl]
            refine ⟨φ3, s4, env2, S3, R2.grow S2 g3, ?_⟩
            rw [ev]
            intro φ4 H4 g4 S4 y2 ry2
            have hu4 := g4.unt hu3 hD3
            have hD4 := g4.keep D _ hD3 hu3
            have rv4 := (rv.grow S2 g3).grow S3 g4
            refine ⟨acc, hD4, ?_, φ4, s3, done ++ [v], acc ++ [y2], rs3, ((g2.trans g3).trans g4).tch hD, S4.tch hD4 hu4, hu4, upd_same, ?_, e4, ?_⟩
            · have l1 := rv.length
              rw [er, e5] at hz
              simp only [List.length_append, Option.toList, List.length_cons, List.length_nil] at hz
              rw [line_eq, ← l1]
              omega
            · exact (rv4.append (.cons ry2 .nil)).tch hD4
            · rw [er, e5]; simp
          · show (if false = true then _ else _)
            rw [if_neg Bool.false_ne_true]
            exact ⟨φ3, s3, done, acc, rs3, g2.trans g3, S3, hu3, hD3, rv.grow S2 g3, e4, by rw [er, e5]; simp⟩
end
end MP
end
section
set_option Elab.async false
set_option linter.all false
set_option maxRecDepth 100000
set_option maxHeartbeats 1000000
/-! MpL: statements. -/
namespace MP
open PySem PySem.Spec PyProof.Rows L2

def FlF (K : PySem.W.Frag) (D : Ends) : Fl → (Nat → Addr) → MP.St → Hp → Prop := fun f φ' st' H' => match f with
  | .nx env' => ∀ σ', Renv K φ' st'.n H' env' σ' → D.nx σ' H'
  | .rt v => ∀ x, Rv K φ' st'.n H' v x → D.rt x H'
  | .bk env' => ∀ σ', Renv K φ' st'.n H' env' σ' → D.bk σ' H'
  | .ct env' => ∀ σ', Renv K φ' st'.n H' env' σ' → D.ct σ' H'
def TSv (K : PySem.W.Frag) (cl : List CI) (C : Calls) (m : S) : TS := fun D σ H => ∃ φ st env, Sim K cl φ st H ∧ Renv K φ st.n H env σ ∧ Sat K cl φ st.n H (exec cl C m env st) (FlF K D)
theorem PS.imp {X : Cx} {e : Stmt} {t t' : TS} (h : PS X e t) (hq : ∀ D σ H, t' D σ H → t D σ H) : PS X e t' := ⟨fun pins s σ H D I q => h.run pins s σ H D I (hq D σ H q)⟩
theorem PSs.imp {X : Cx} {e : List Stmt} {t t' : TS} (h : PSs X e t) (hq : ∀ D σ H, t' D σ H → t D σ H) : PSs X e t' := ⟨fun pins s σ H D I q => h.run pins s σ H D I (hq D σ H q)⟩

section
variable {K : PySem.W.Frag} {cl : List CI} {C : Calls} {φ φ' φ1 : Nat → Addr} {n n' n1 : Nat} {H H' H1 : Hp} {st st' : MP.St} {env : Env} {σ : L2.St} {D : Ends}
theorem ts_nil (h : TSv K cl C .nil D σ H) : tNext D σ H := by
  obtain ⟨φ, st, env, S, R, h⟩ := h
  exact (Sat.here S (show Sat K cl φ st.n H (.ok (.nx env) st) (FlF K D) from h)) σ R
theorem sat_optM {α β : Type} {o : Option α} {k : α → M β} {F : β → (Nat → Addr) → MP.St → Hp → Prop} (h : Sat K cl φ n H ((match o with
  | some x => k x
  | none => M.bad) st) F) : ∃ x, o = some x ∧ Sat K cl φ n H (k x st) F := by
  cases o with
  | none => exact h.elim
  | some x => exact ⟨x, rfl, h⟩
theorem ts_asg {t : List Nat} {e : E} {r : MP.S} (h : TSv K cl C (.asg t e r) D σ H) : tSeq (tAsg (TEv K cl C e) (gT K t)) (TSv K cl C r) D σ H := by
  obtain ⟨φ, st, env, S, R, h⟩ := h
  refine (TEv.step S R (show Sat K cl φ st.n H (M.bind ((den cl C e).v env) (fun v => match putT t v env with
    | some env' => exec cl C r env'
    | none => .bad) st) (FlF K D) from h)).mono fun x H1 ⟨φ1, st1, v, g1, S1, rx, R1, h1⟩ => ?_
  cases e1 : putT t v env with
  | none => rw [e1] at h1; exact h1.elim
  | some env' =>
    rw [e1] at h1
    exact g_put rx R1 e1 fun σ' R' _ => ⟨φ1, st1, env', S1, R', h1⟩
/-- names at once -/
def tParN (is : List Nat) (ta : TA) : TS := fun D σ H => ta σ H fun vs H1 => vs.length = is.length ∧ vs.length ≤ 15 ∧ D.nx ((is.reverse.zip vs.reverse).foldl (fun s p => s.set p.1 (some p.2)) σ) H1
theorem Rvs.reverse : ∀ {xs : List AV} {vs : List V}, Rvs K φ n H xs vs → Rvs K φ n H xs.reverse vs.reverse
  | _, _, .nil => .nil
  | _, _, .cons h r => by
    rw [List.reverse_cons, List.reverse_cons]
    exact (Rvs.reverse r).append (.cons h .nil)
theorem renv_all : ∀ {t : List Nat} {xs : List AV} {vs : List V} {env : Env} {σ : L2.St}, Rvs K φ n H xs vs → Renv K φ n H env σ → Renv K φ n H ((t.zip xs).foldl (fun e p => e.set p.1 (some p.2)) env) ((t.zip vs).foldl (fun s p => s.set p.1 (some p.2)) σ)
  | [], _, _, _, _, _, R => R
  | i :: t, _, _, _, _, .nil, R => R
  | i :: t, _, _, _, _, .cons h r, R => renv_all (t := t) r (renv_set R h)
theorem ts_par {t : List Nat} {es : E} {r : MP.S} (ht : t.length ≤ 15) (h : TSv K cl C (.par t es r) D σ H) : tSeq (tParN t (TAv K cl C es)) (TSv K cl C r) D σ H := by
  obtain ⟨φ, st, env, S, R, h⟩ := h
  refine (TAv.step S R (show Sat K cl φ st.n H (M.bind ((den cl C es).l env) (fun vs => match putP t vs env with
    | some env' => exec cl C r env'
    | none => .bad) st) (FlF K D) from h)).mono fun xs H1 ⟨φ1, st1, vs, g1, S1, rx, R1, h1⟩ => ?_
  by_cases z : vs.length = t.length
  · have e1 : putP t vs env = some ((t.reverse.zip vs.reverse).foldl (fun e p => e.set p.1 (some p.2)) env) := if_pos z
    rw [e1] at h1
    have hl := rx.length
    exact ⟨by omega, by omega, φ1, st1, _, S1, renv_all rx.reverse R1, h1⟩
  · have e1 : putP t vs env = none := if_neg z
    rw [e1] at h1
    exact h1.elim
def RSet (K : PySem.W.Frag) (cl : List CI) : TSet := fun o i v H Q => ∃ φ st a k w, Sim K cl φ st H ∧ Rv K φ st.n H a o ∧ Rv K φ st.n H k i ∧ Rv K φ st.n H w v ∧ Sat K cl φ st.n H (setA a k w st) fun _ φ' st' H' => Q H'
theorem ts_sub {o i e : E} {r : MP.S} (h : TSv K cl C (.sub o i e r) D σ H) : tSeq (tAsg (TEv K cl C e) (gSub (TEv K cl C o) (TEv K cl C i) (RSet K cl))) (TSv K cl C r) D σ H := by
  obtain ⟨φ, st, env, S, R, h⟩ := h
  refine (TEv.step S R (show Sat K cl φ st.n H (M.bind ((den cl C e).v env) (fun v => .bind ((den cl C o).v env) fun x => .bind ((den cl C i).v env) fun k => .bind (setA x k v) fun _ => exec cl C r env) st) (FlF K D) from h)).mono fun x H1 ⟨φ1, st1, v, g1, S1, rx, R1, h1⟩ => ?_
  refine (TEv.step S1 R1 h1).mono fun y H2 ⟨φ2, st2, w, g2, S2, ry, R2, h2⟩ => ?_
  refine (TEv.step S2 R2 h2).mono fun z H3 ⟨φ3, st3, k, g3, S3, rz, R3, h3⟩ => ?_
  exact ⟨φ3, st3, w, k, v, S3, ry.grow S2 g3, rz, (rx.grow S1 g2).grow S2 g3, (Sat.bind h3).mono fun _ φ4 st4 H4 g4 S4 q => ⟨φ4, st4, env, S4, R3.grow S3 g4, q⟩⟩
theorem ts_exp {e : E} {r : MP.S} (h : TSv K cl C (.exp e r) D σ H) : tSeq (tDrop (TEv K cl C e)) (TSv K cl C r) D σ H := by
  obtain ⟨φ, st, env, S, R, h⟩ := h
  exact (TEv.step S R (show Sat K cl φ st.n H (M.bind ((den cl C e).v env) (fun _ => exec cl C r env) st) (FlF K D) from h)).mono fun x H1 ⟨φ1, st1, v, g1, S1, rx, R1, h1⟩ => ⟨φ1, st1, env, S1, R1, h1⟩
/-- what follows a part -/
theorem flf_then {f : Fl} {r : MP.S} (S : Sim K cl φ st H) (h : Sat K cl φ st.n H (thenL f (exec cl C r) st) (FlF K D)) : FlF K { D with nx := TSv K cl C r D } f φ st H := by
  cases f with
  | nx env' => exact fun σ' R' => ⟨φ, st, env', S, R', h⟩
  | rt v => exact Sat.here S (show Sat K cl φ st.n H (.ok (.rt v) st) (FlF K D) from h)
  | bk env' => exact Sat.here S (show Sat K cl φ st.n H (.ok (.bk env') st) (FlF K D) from h)
  | ct env' => exact Sat.here S (show Sat K cl φ st.n H (.ok (.ct env') st) (FlF K D) from h)
theorem ts_ite {c : E} {a b r : MP.S} (h : TSv K cl C (.ite c a b r) D σ H) : tSeq (tIfS (TTv K cl C c) (TSv K cl C a) (TSv K cl C b)) (TSv K cl C r) D σ H := by
  obtain ⟨φ, st, env, S, R, h⟩ := h
  refine (TTv.step S R (show Sat K cl φ st.n H (M.bind ((den cl C c).t env) (fun k => .bind (iteM k (exec cl C a env) (exec cl C b env)) fun f => thenL f (exec cl C r)) st) (FlF K D) from h)).mono fun k H1 ⟨φ1, st1, g1, S1, R1, h1⟩ => ?_
  have h2 := sat_ite (Sat.bind h1)
  by_cases e : k = true
  · rw [if_pos e] at h2 ⊢
    exact ⟨φ1, st1, env, S1, R1, h2.mono fun f φ2 st2 H2 g2 S2 q => flf_then S2 q⟩
  · rw [if_neg e] at h2 ⊢
    exact ⟨φ1, st1, env, S1, R1, h2.mono fun f φ2 st2 H2 g2 S2 q => flf_then S2 q⟩
theorem ts_ret {e : E} (h : TSv K cl C (.ret e) D σ H) : tRet (TEv K cl C e) D σ H := by
  obtain ⟨φ, st, env, S, R, h⟩ := h
  exact (TEv.step S R (show Sat K cl φ st.n H (M.bind ((den cl C e).v env) (fun v => .pure (.rt v)) st) (FlF K D) from h)).mono fun x H1 ⟨φ1, st1, v, g1, S1, rx, R1, h1⟩ => (Sat.here S1 h1) _ rx
theorem ts_retn (h : TSv K cl C .retn D σ H) : tRetN D σ H := by
  obtain ⟨φ, st, env, S, R, h⟩ := h
  exact (Sat.here S (show Sat K cl φ st.n H (.ok (.rt .non) st) (FlF K D) from h)) _ .non
theorem ts_brk (h : TSv K cl C .brk D σ H) : tBreak D σ H := by
  obtain ⟨φ, st, env, S, R, h⟩ := h
  exact (Sat.here S (show Sat K cl φ st.n H (.ok (.bk env) st) (FlF K D) from h)) _ R
theorem ts_cnt (h : TSv K cl C .cnt D σ H) : tCont D σ H := by
  obtain ⟨φ, st, env, S, R, h⟩ := h
  exact (Sat.here S (show Sat K cl φ st.n H (.ok (.ct env) st) (FlF K D) from h)) _ R
theorem ts_pas {r : MP.S} (h : TSv K cl C (.pas r) D σ H) : tSeq tNext (TSv K cl C r) D σ H := h

/-! ### for -/
def forB (body : AV → Env → M Fl) (ai : AI) (m i : Nat) (f : Fl) : M Fl := match f with
  | .nx e => forL body ai m i e
  | .ct e => forL body ai m i e
  | .bk e => .pure (.nx e)
  | .rt v => .pure (.rt v)
theorem ts_for {t : List Nat} {it : E} {b r : MP.S} (h : TSv K cl C (.for_ t it b r) D σ H) : tSeq (tFor (TIv K cl C it) (gT K t) (TSv K cl C b)) (TSv K cl C r) D σ H := by
  obtain ⟨φ, st, env, S, R, h⟩ := h
  have body_ : ∀ x e, (fun (x : AV) (e : Env) => match putT t x e with
      | some e' => exec cl C b e'
      | none => M.bad) x e = (match putT t x e with
      | some e' => exec cl C b e'
      | none => M.bad) := fun _ _ => rfl
  generalize hbd : (fun (x : AV) (e : Env) => match putT t x e with
      | some e' => exec cl C b e'
      | none => M.bad) = body at body_
  have h : Sat K cl φ st.n H (M.bind ((den cl C it).i env) (fun ai => .bind (forA body ai env) fun f => thenL f (exec cl C r)) st) (FlF K D) := by rw [← hbd]; exact h
  refine ⟨φ, st, env, S, R, (Sat.bind h).mono fun ai φ1 st1 H1 g1 S1 h1 J aj => ?_⟩
  have R1 := R.grow S g1
  have h1 := Sat.bind h1
  change Sat K cl φ1 st1.n H1 (match ai.len st1 with
    | some n => forL body ai n 0 env st1
    | none => .bad) _ at h1
  cases el_ : ai.len st1 with
  | none => rw [el_] at h1; exact h1.elim
  | some m0 =>
    rw [el_] at h1
    refine ⟨fun i m σ H => ∃ φ st env, Sim K cl φ st H ∧ Renv K φ st.n H env σ ∧ AJ K φ st.n H ai J ∧ Sat K cl φ st.n H (forL body ai m i env st) fun f φ' st' H' => Sat K cl φ' st'.n H' (thenL f (exec cl C r) st') (FlF K D), ⟨m0, φ1, st1, env, S1, R1, aj, h1⟩, ?_⟩
    rintro i m σ2 H2 ⟨φ2, st2, env2, S2, R2, aj2, h2⟩
    have stop : ai.item st2 i = some none → Sat K cl φ2 st2.n H2 (Out.ok (Fl.nx env2) st2) (fun f φ' st' H' => Sat K cl φ' st'.n H' (thenL f (exec cl C r) st') (FlF K D)) → J.stop i H2 ∧ TSv K cl C r D σ2 H2 := fun ei q => ⟨aj_stop S2 aj2 ei, φ2, st2, env2, S2, R2, Sat.here S2 q⟩
    cases m with
    | zero =>
      change Sat K cl φ2 st2.n H2 (match ai.item st2 i with
        | some none => Out.ok (Fl.nx env2) st2
        | _ => .bad) _ at h2
      split at h2
      · rename_i ei; exact .inl (stop ei h2)
      · exact h2.elim
    | succ m =>
      change Sat K cl φ2 st2.n H2 (match ai.item st2 i with
        | some none => Out.ok (Fl.nx env2) st2
        | some (some x) => M.bind (body x env2) (forB body ai m (i + 1)) st2
        | none => .bad) _ at h2
      split at h2
      · rename_i ei; exact .inl (stop ei h2)
      · rename_i x ei
        obtain ⟨jgo, jy⟩ := aj_go S2 aj2 ei
        refine .inr ⟨jgo, fun σ H => ∃ φ st env, Sim K cl φ st H ∧ Renv K φ st.n H env σ ∧ AJ K φ st.n H ai J ∧ Sat K cl φ st.n H (forL body ai m (i + 1) env st) fun f φ' st' H' => Sat K cl φ' st'.n H' (thenL f (exec cl C r) st') (FlF K D), fun σ' H' q => ⟨m, Nat.lt_succ_self _, q⟩, fun y H' hy => ?_⟩
        obtain ⟨rfl, ry⟩ := jy y H' hy
        have h3 := Sat.bind h2
        rw [body_] at h3
        cases ep : putT t x env2 with
        | none => rw [ep] at h3; exact h3.elim
        | some env3 =>
          rw [ep] at h3
          refine g_put ry R2 ep fun σ3 R3 _ => ⟨φ2, st2, env3, S2, R3, h3.mono fun f φ4 st4 H4 g4 S4 q => ?_⟩
          cases f with
          | nx e4 => exact fun σ4 R4 => ⟨φ4, st4, e4, S4, R4, aj2.grow S2 g4, q⟩
          | ct e4 => exact fun σ4 R4 => ⟨φ4, st4, e4, S4, R4, aj2.grow S2 g4, q⟩
          | bk e4 =>
            have q := Sat.here (v := Fl.nx e4) (st := st4) (F := fun w φ2 st2 H2 => Sat K cl φ2 st2.n H2 (thenL w (exec cl C r) st2) (FlF K D)) S4 q
            exact fun σ4 R4 => ⟨φ4, st4, e4, S4, R4, q⟩
          | rt v =>
            have q := Sat.here (v := Fl.rt v) (st := st4) (F := fun w φ2 st2 H2 => Sat K cl φ2 st2.n H2 (thenL w (exec cl C r) st2) (FlF K D)) S4 q
            exact Sat.here S4 (show Sat K cl φ4 st4.n H4 (.ok (.rt v) st4) (FlF K D) from q)
      · exact h2.elim
end
end MP
end
section
set_option Elab.async false
set_option linter.all false
set_option maxRecDepth 100000
set_option maxHeartbeats 1000000
/-! MpM: what a def promises (no exception; repr's guards known), calls, a def's body. -/
namespace MP
open PySem PySem.Spec PyProof.Rows L2

abbrev Sp0 := List V → Hp → VK → Prop
/-- the contract: nothing is raised -/
structure FnG (P : Program) (w : World) (K : PySem.W.Frag) (mg : Str → Option Value) (base : Heap) (k : Nat) (f : Addr) (fd : FuncData) (ps : List Str) (sp : Sp0) : Prop where
  len : ∀ vs H Q, sp vs H Q → vs.length = ps.length
  run : ∀ (A : Around) (outer : List PySem.Env) (s : Shared) (H : Hp) (args : Args) (us : List Value) (vs : List V) (Q : VK), A.guards = some [] → Room k A → Env0 P w K mg base A outer s H → BindsTo s fd args (ps.zip us) → Vals vs us → sp vs H Q →
    codeAny (model P w) A (.call (.ref f) args) (fun r s' => match r with
      | .ok (.ret u) => CE outer P w H s Q u s'
      | _ => False) s
def CXF : CXT := fun _ _ _ _ _ _ => False
section
variable {X : Cx} {k : Nat} {f : Addr} {fd : FuncData} {ps : List Str} {sp : Sp0} {x : Str} {p pos : Pos} {e : Expr} {es : List Expr} {t : TA}
theorem run_fnG {pins : List (Addr × Obj)} {σ : L2.St} {H : Hp} {s : Shared} {Q : VK} {us : List Value} {vs : List V} (F : FnG X.prog X.w X.K X.mg X.base k f fd ps sp) (hg : X.A.guards = some []) (hr : Room k X.A) (hb : Binds X.K fd ps [])
    (I : Inv X pins σ H s) (r : Vals vs us) (h : sp vs H Q) : wpAny (model X.prog X.w) X.A (call (.ref f) us) (EP X pins σ Q) X.xe s := by
  have hl : (us ++ []).length = ps.length := by rw [List.append_nil, ← r.length]; exact F.len _ _ _ h
  have hbb := hb s us I.kIn hl
  rw [List.append_nil] at hbb
  refine wpAny_call (codeAny_mono (F.run X.A X.stack s H ⟨us, []⟩ us vs Q hg hr I.env0 hbb r h) fun r s' hq => ?_)
  cases r with
  | error e => exact hq.elim
  | ok fl =>
    cases fl with
    | ret u => exact I.after hq
    | next => exact False.elim hq
    | brk => exact False.elim hq
    | cont => exact False.elim hq
theorem pe_callG (F : FnG X.prog X.w X.K X.mg X.base k f fd ps sp) (hgd : X.A.guards = some []) (hr : Room k X.A) (hg : Gl X x) (hm : X.mg x = some (.ref f)) (hk : PySem.W.keepIn X.K (.ref f) = true) (hb : Binds X.K fd ps [])
    (ha : PA X (e :: es) t) (hdb : (x == ("__debug__" : Str)) = false) (he : starEach (e :: es) X.env = (false, eval e X.env) :: starEach es X.env) (hpl : (backTo pos (starEach es X.env)).any (·.1) = false) :
    PE X (.Call (.Name x p) (e :: es) [] pos) (tCB sp t) := by
  refine ⟨fun pins s σ H Q I h => ?_⟩
  refine wpAny_Call_Name_kw (ld_glob I hg hm ?_ hdb)
  refine PySem.W.callWith_K (h₀ := X.base) I.ok.mod.kin hk (thn (ha.run pos pins s σ H _ I h) fun us s1 ⟨vs, H1, I1, r, q⟩ => ⟨I1.kIn, ?_⟩) he hpl
  exact run_fnG F hgd hr hb I1 r q
theorem pe_callG0 (F : FnG X.prog X.w X.K X.mg X.base k f fd ps sp) (hgd : X.A.guards = some []) (hr : Room k X.A) (hg : Gl X x) (hm : X.mg x = some (.ref f)) (hk : PySem.W.keepIn X.K (.ref f) = true) (hb : Binds X.K fd ps [])
    (hdb : (x == ("__debug__" : Str)) = false) : PE X (.Call (.Name x p) [] [] pos) (tCB sp tNil) := by
  refine ⟨fun pins s σ H Q I h => ?_⟩
  refine wpAny_Call_Name_kw (ld_glob I hg hm ?_ hdb)
  exact PySem.W.callWith_K0 I.kIn hk (run_fnG (us := []) F hgd hr hb I .nil h)
end
theorem guards_deeper {A : Around} {env : PySem.Env} (h : A.guards = some []) : (A.deeper env).guards = some [] := h
/-- a def by its body -/
theorem fn_ofG {P : Program} {w : World} {K : PySem.W.Frag} {mg : Str → Option Value} {base : Heap} {k : Nat} {f : Addr} {name qual : Str} {params : Arguments} {body : List Stmt} {scope : Scope} {dV kV doc pm cdv ct oc : Value} {an od : Option Addr}
    {osl : Array (Option Value)} {N ps : List Str} {sp : Sp0} (lk : K.lookup f = some ⟨oc, od, .func (PySem.W.fnOf name qual params body scope dV kV doc pm an cdv ct), osl⟩) (hcd : PySem.W.codeIn K cdv qual = true) (S : FnScope N ps scope)
    (len : ∀ vs H Q, sp vs H Q → vs.length = ps.length)
    (hbody : ∀ (A : Around) (outer : List PySem.Env) (s : Shared) (H : Hp) (vs : List V) (Q : VK), (A.deeper (envOfC qual scope s.heap.objs.size f cdv)).guards = some [] → Room k (A.deeper (envOfC qual scope s.heap.objs.size f cdv)) → sp vs H Q →
      ∃ t, PSs (cxOf CXF P w K mg base N qual scope f cdv A outer s H (fun _ _ _ => False)) body t ∧ t { nx := fun _ H' => Q .non H', rt := Q } (start N vs) H) :
    FnG P w K mg base (k + 1) f (PySem.W.fnOf name qual params body scope dV kV doc pm an cdv ct) ps sp := by
  refine ⟨len, fun A outer s H args us vs Q hgd hr e0 hb r hsp => ?_⟩
  have hl := len _ _ _ hsp
  have KX : K.In s.heap := e0.mod.kin.keeps fun b o e => (e0.bs b o e).1
  have lim : s.heap.NoLimit := e0.mod.nolimit.keeps fun b o e => (e0.bs b o e).1
  have hkind : ∀ y ∈ ps.zip us, scope.names.lookup y.1 = some .local ∨ (scope.names.lookup y.1 = some .cell ∧ ((cellsFrom (s.heap.objs.size + 1) scope.names []).lookup y.1).isSome = true) := fun ⟨n, v⟩ hy => by
    rcases S.par n (List.of_mem_zip hy).1 with q | q
    · exact .inl q
    · exact .inr ⟨q, PySem.W.cellsFrom_some _ _ _ (.inl q)⟩
  refine codeAny_call_function hr.depth (KX _ _ lk) rfl S.co S.gen rfl (PySem.W.codeRec_of KX hcd) (hb _ _ _ _ ?_)
  refine wpAny_newFunctionEnv_cells S.kind hkind fun env he s1 x => ?_
  subst he
  refine ⟨lim.keeps x.toInCall.keep, codeAny_func ?_⟩
  obtain ⟨t, ht, hq⟩ := hbody A outer s H vs Q (guards_deeper hgd) (hr.deeper _) hsp
  have I : Inv (cxOf CXF P w K mg base N qual scope f cdv A outer s H (fun _ _ _ => False)) [] (start N vs) H s1 := inv_start S hr.hd e0 hl r x
  refine wpAny_mono (ht.run [] s1 (start N vs) H _ I hq) (fun fl s' hs => ?_) fun e s' hs => hs
  have fin : ∀ {σ' : L2.St} {H' : Hp} {v : V} {u : Value}, Inv (cxOf CXF P w K mg base N qual scope f cdv A outer s H (fun _ _ _ => False)) [] σ' H' s' → RelV v u → Q v H' → CE outer P w H s Q u s' :=
    fun {σ' H' v u} J rv q => ⟨v, H', J.os, J.bare, J.base, J.hok, rv, q⟩
  cases fl with
  | ret u =>
    obtain ⟨v, σ', H', J, rv, q⟩ := hs
    exact fin J rv q
  | next =>
    obtain ⟨σ', H', J, q⟩ := hs
    exact fin (v := V.non) (u := Value.none) J rfl q
  | brk =>
    obtain ⟨_, _, _, q⟩ := hs
    exact False.elim q
  | cont =>
    obtain ⟨_, _, _, q⟩ := hs
    exact False.elim q
end MP
end
section
set_option Elab.async false
set_option linter.all false
set_option maxRecDepth 100000
set_option maxHeartbeats 1000000
/-! MpN: that a machine's term is an expression of the text: the check. -/
namespace MP
open PySem PySem.Spec PyProof.Rows L2

/-! ### taking expressions apart -/
def unName : Expr → Option (Str × Pos) | .Name x p => some (x, p) | _ => none
def unTup : Expr → Option (List Expr × Nat × Pos) | .Tuple es k p => some (es, k, p) | _ => none
def unLst : Expr → Option (List Expr × Pos) | .List es p => some (es, p) | _ => none
def unDict : Expr → Option (List (Option Expr) × List Expr × Pos) | .Dict ks vs p => some (ks, vs, p) | _ => none
def unBin : Expr → Option (Expr × Operator × Expr × Pos) | .BinOp a o b p => some (a, o, b, p) | _ => none
def unUn : Expr → Option (UnaryOp × Expr × Pos) | .UnaryOp o a p => some (o, a, p) | _ => none
def unCmp : Expr → Option (Expr × CmpOp × Expr × Pos) | .Compare a [o] [b] p => some (a, o, b, p) | _ => none
def unBool : Expr → Option (PySem.BoolOp × Expr × Expr × List Expr × Pos) | .BoolOp o (a :: b :: r) p => some (o, a, b, r, p) | _ => none
def unIf : Expr → Option (Expr × Expr × Expr × Pos) | .IfExp c a b p => some (c, a, b, p) | _ => none
def unSub : Expr → Option (Expr × Expr × Pos) | .Subscript a i p => some (a, i, p) | _ => none
def unSli : Expr → Option (Option Expr × Option Expr × Pos) | .Slice l h none p => some (l, h, p) | _ => none
def unCall : Expr → Option (Str × Pos × List Expr × List Keyword × Pos) | .Call (.Name x q) es ks p => some (x, q, es, ks, p) | _ => none
def unMeth : Expr → Option (Expr × Str × Pos × List Expr × Pos) | .Call (.Attribute o n ap) es [] p => some (o, n, ap, es, p) | _ => none
def unAttr : Expr → Option (Expr × Str × Pos) | .Attribute e n p => some (e, n, p) | _ => none
def unLc : Expr → Option (Expr × Expr × Expr × List Expr × Scope × Pos) | .ListComp el [⟨t, i, fs, 0⟩] sc p => some (el, t, i, fs, sc, p) | _ => none
def unConst : Expr → Option Const | .Constant c _ _ => some c | _ => none
theorem unName_eq {x : Expr} {y p} (h : unName x = some (y, p)) : x = .Name y p := by unfold unName at h; split at h <;> first | (cases h; rfl) | cases h
theorem unTup_eq {x : Expr} {y k p} (h : unTup x = some (y, k, p)) : x = .Tuple y k p := by unfold unTup at h; split at h <;> first | (cases h; rfl) | cases h
theorem unLst_eq {x : Expr} {y p} (h : unLst x = some (y, p)) : x = .List y p := by unfold unLst at h; split at h <;> first | (cases h; rfl) | cases h
theorem unDict_eq {x : Expr} {y k p} (h : unDict x = some (y, k, p)) : x = .Dict y k p := by unfold unDict at h; split at h <;> first | (cases h; rfl) | cases h
theorem unBin_eq {x : Expr} {a o b p} (h : unBin x = some (a, o, b, p)) : x = .BinOp a o b p := by unfold unBin at h; split at h <;> first | (cases h; rfl) | cases h
theorem unUn_eq {x : Expr} {o a p} (h : unUn x = some (o, a, p)) : x = .UnaryOp o a p := by unfold unUn at h; split at h <;> first | (cases h; rfl) | cases h
theorem unCmp_eq {x : Expr} {a o b p} (h : unCmp x = some (a, o, b, p)) : x = .Compare a [o] [b] p := by unfold unCmp at h; split at h <;> first | (cases h; rfl) | cases h
theorem unBool_eq {x : Expr} {o a b r p} (h : unBool x = some (o, a, b, r, p)) : x = .BoolOp o (a :: b :: r) p := by unfold unBool at h; split at h <;> first | (cases h; rfl) | cases h
theorem unIf_eq {x : Expr} {c a b p} (h : unIf x = some (c, a, b, p)) : x = .IfExp c a b p := by unfold unIf at h; split at h <;> first | (cases h; rfl) | cases h
theorem unSub_eq {x : Expr} {a i p} (h : unSub x = some (a, i, p)) : x = .Subscript a i p := by unfold unSub at h; split at h <;> first | (cases h; rfl) | cases h
theorem unSli_eq {x : Expr} {a i p} (h : unSli x = some (a, i, p)) : x = .Slice a i none p := by unfold unSli at h; split at h <;> first | (cases h; rfl) | cases h
theorem unCall_eq {x : Expr} {y q es ks p} (h : unCall x = some (y, q, es, ks, p)) : x = .Call (.Name y q) es ks p := by unfold unCall at h; split at h <;> first | (cases h; rfl) | cases h
theorem unMeth_eq {x : Expr} {o n ap es p} (h : unMeth x = some (o, n, ap, es, p)) : x = .Call (.Attribute o n ap) es [] p := by unfold unMeth at h; split at h <;> first | (cases h; rfl) | cases h
theorem unAttr_eq {x : Expr} {e n p} (h : unAttr x = some (e, n, p)) : x = .Attribute e n p := by unfold unAttr at h; split at h <;> first | (cases h; rfl) | cases h
theorem unLc_eq {x : Expr} {el t i fs sc p} (h : unLc x = some (el, t, i, fs, sc, p)) : x = .ListComp el [⟨t, i, fs, 0⟩] sc p := by unfold unLc at h; split at h <;> first | (cases h; rfl) | cases h
theorem unConst_eq {x : Expr} {c} (h : unConst x = some c) : ∃ k p, x = .Constant c k p := by unfold unConst at h; split at h <;> first | (cases h; exact ⟨_, _, rfl⟩) | cases h
/-- the plain forms -/
def plainC : Expr → Bool
  | .Name .. => true | .Constant .. => true | .Tuple .. => true | .List .. => true | .Dict .. => true | .BinOp .. => true | .UnaryOp .. => true | .Compare .. => true | .BoolOp .. => true | .IfExp .. => true
  | .Subscript .. => true | .Call .. => true | .Attribute .. => true | .ListComp .. => true
  | _ => false
def truthC : Expr → Bool
  | .UnaryOp .Not _ _ => false | .BoolOp .. => false | .IfExp .. => false | .Compare .. => false
  | _ => true
def baseC : Expr → Bool
  | .Call (.Name x _) _ _ _ => !decide (x = Str.ofString "super")
  | _ => true
theorem plain_star {x : Expr} (h : plainC x = true) (es : List Expr) (env : PySem.Env) : starEach (x :: es) env = (false, eval x env) :: starEach es env := by
  cases x <;> first | rfl | exact absurd h Bool.false_ne_true
theorem plain_ix {x : Expr} (h : plainC x = true) : PlainIx x := by
  cases x <;> first | exact fun _ _ => rfl | exact absurd h Bool.false_ne_true
theorem plain_fold {x : Expr} (h : plainC x = true) (env : PySem.Env) (v : Value) : foldedSetIterable x env v = pure v := by
  cases x <;> first | rfl | exact absurd h Bool.false_ne_true
theorem plain_marks {x : Expr} (h : plainC x = true) (o : CmpOp) : behindInMarks o x = false := by
  cases x <;> first | rfl | exact absurd h Bool.false_ne_true
theorem truth_he {x : Expr} (h : truthC x = true) (env : PySem.Env) (whole : Sem Value) : isTrue x env whole = (do let v ← whole; standAt x.pos; holding [v] (truthy v)) := by
  cases x with
  | UnaryOp o a p => cases o <;> first | rfl | exact absurd h Bool.false_ne_true
  | _ => first | rfl | exact absurd h Bool.false_ne_true
theorem base_ok {x : Expr} (h : baseC x = true) (n : Str) (env : PySem.Env) : attributeBase x n env (eval x env) = eval x env := by
  cases x with
  | Call f es ks p =>
    cases f with
    | Name y q =>
      have hy : (y != (Str.ofString "super")) = true := by
        have h : (!decide (y = Str.ofString "super")) = true := h
        simpa using h
      cases es with
      | nil =>
        cases ks with
        | nil =>
          unfold attributeBase
          simp only [hy, Bool.true_or, if_true]
        | cons => rfl
      | cons => rfl
    | _ => rfl
  | _ => rfl
def noStar (es : List Expr) : Bool := es.all plainC
theorem star_any {pos : Pos} {env : PySem.Env} : ∀ {es : List Expr}, noStar es = true → (backTo pos (starEach es env)).any (·.1) = false
  | [], _ => rfl
  | x :: es, h => by
    unfold noStar at h
    rw [List.all_cons, Bool.and_eq_true] at h
    rw [plain_star h.1]
    show (false || (backTo pos (starEach es env)).any (·.1)) = false
    rw [star_any (es := es) h.2]
    rfl
theorem star_all {pos : Pos} {env : PySem.Env} : ∀ {es : List Expr}, noStar es = true → (backTo pos (starEach es env)).all (fun x => !x.1) = true
  | [], _ => rfl
  | x :: es, h => by
    unfold noStar at h
    rw [List.all_cons, Bool.and_eq_true] at h
    rw [plain_star h.1]
    show (true && (backTo pos (starEach es env)).all (fun x => !x.1)) = true
    rw [star_all (es := es) h.2]
    rfl

/-! ### names -/
structure Ctx where
  N : List Str
  sc : Scope
  fw : Str → Bool
def visB (c : Ctx) (i : Nat) (x : Str) : Bool := decide (c.N[i]? = some x) && ((match c.sc.names.lookup x with
  | some .local => true
  | some .cell => true
  | some .free => true
  | _ => false) && (!(x == ("__debug__" : Str)) && !(x == ("__classdict__" : Str))))
def setB (c : Ctx) (i : Nat) (x : Str) : Bool := decide (c.N[i]? = some x) && (match c.sc.names.lookup x with
  | some .local => true
  | some .cell => c.fw x
  | _ => false)
def glB (c : Ctx) (x : Str) : Bool := decide (c.sc.names.lookup x = some .globalImplicit) && !(x == ("__debug__" : Str))
/-- a target: one name, or a tuple of names -/
def tgs (c : Ctx) : List Nat → List Expr → Bool
  | [], [] => true
  | i :: t, x :: xs => (match unName x with
    | some (y, _) => setB c i y
    | none => false) && tgs c t xs
  | _, _ => false
def notOne : List Nat → Bool | [_] => false | _ => true
def tgB (c : Ctx) (t : List Nat) (x : Expr) : Bool := match unTup x with
  | some (xs, _, _) => tgs c t xs && notOne t
  | none => tgs c t [x]
/-- the names of a block of its own -/
def ctxC (c : Ctx) (scope : Scope) : Ctx := ⟨c.N, relS scope c.sc, fun x => scope.names.lookup x == some .cell⟩
def ownOf (c : Ctx) (t : List Nat) : List (Str × Nat) := t.map fun i => (c.N[i]?.getD Str.empty, i)

def biN : Bi → String
  | .len => "len" | .sum => "sum" | .max2 => "max" | .min2 => "min" | .int => "int" | .all => "all" | .list => "list" | .repr => "repr"
def tyN (cl : List CI) : Ty → String
  | .int => "int" | .bool => "bool" | .str => "str" | .list => "list" | .tuple => "tuple" | .dict => "dict" | .verr => "ValueError"
  | .cls c => match cl[c]? with | some i => i.name | none => ""
def meN : Me → String
  | .append => "append" | .insert => "insert" | .join => "join" | .bitlen => "bit_length"
def bltNames : List String := ["len", "sum", "max", "min", "int", "all", "list", "repr", "isinstance", "range", "bool", "str", "tuple", "dict", "ValueError"]

structure MD where
  e : Ctx → Expr → Bool
  l : Ctx → List Expr → Bool := fun _ _ => false
  d : Ctx → List (Option Expr) → List Expr → Bool := fun _ _ _ => false
  d' : Ctx → List (Option Expr) → List Expr → Bool := fun _ _ _ => false
  o : Ctx → Option Expr → Bool := fun _ _ => false
  i : Ctx → Expr → Bool
def MD.of (e : Ctx → Expr → Bool) : MD where
  e := fun c x => plainC x && e c x
  i := fun c x => plainC x && e c x
def okOp : COp → Bool | .inn => false | .notin => false | _ => true
def chk (cl : List CI) (ds : List DI) : E → MD
  | .var i => .of fun c x => match unName x with
    | some (y, _) => visB c i y
    | none => false
  | .non => .of fun _ x => match unConst x with
    | some .none => true
    | _ => false
  | .bl b => .of fun _ x => match unConst x with
    | some (.bool b') => decide (b = b')
    | _ => false
  | .int i => .of fun _ x => match unConst x with
    | some (.int j) => decide (i = j)
    | _ => false
  | .str s => .of fun _ x => match unConst x with
    | some (.str z) => decide (s = z)
    | _ => false
  | .gc _ _ => .of fun _ _ => false
  | .tup es => .of fun c x => match unTup x with
    | some (xs, _, _) => (chk cl ds es).l c xs
    | none => false
  | .lst es => .of fun c x => match unLst x with
    | some (xs, _) => (chk cl ds es).l c xs
    | none => false
  | .dic es => .of fun c x => match unDict x with
    | some (ks, vs, _) => (chk cl ds es).d c ks vs && (decide (ks ≠ []) && decide (ks.length ≤ 15))
    | none => false
  | .bin o a b => .of fun c x => match unBin x with
    | some (a', o', b', _) => decide (o' = bop o) && ((chk cl ds a).e c a' && (chk cl ds b).e c b')
    | none => false
  | .neg a => .of fun c x => match unUn x with
    | some (o, a', _) => decide (o = .USub) && (chk cl ds a).e c a'
    | none => false
  | .cmp o a b => .of fun c x => match unCmp x with
    | some (a', o', b', _) => (okOp o && decide (o' = cop o)) && ((chk cl ds a).e c a' && (chk cl ds b).e c b')
    | none => false
  | .and a b => .of fun c x => match unBool x with
    | some (o, a', b', r, p) => decide (o = .And) && ((chk cl ds a).e c a' && (match r with
      | [] => (chk cl ds b).e c b'
      | _ => (chk cl ds b).e c (.BoolOp .And (b' :: r) p)))
    | none => false
  | .or a b => .of fun c x => match unBool x with
    | some (o, a', b', r, p) => decide (o = .Or) && ((chk cl ds a).e c a' && (match r with
      | [] => (chk cl ds b).e c b'
      | _ => (chk cl ds b).e c (.BoolOp .Or (b' :: r) p)))
    | none => false
  | .not a => .of fun c x => match unUn x with
    | some (o, a', _) => decide (o = .Not) && (chk cl ds a).e c a'
    | none => false
  | .ite t a b => .of fun c x => match unIf x with
    | some (t', a', b', _) => (chk cl ds t).e c t' && ((chk cl ds a).e c a' && (chk cl ds b).e c b')
    | none => false
  | .idx a i => .of fun c x => match unSub x with
    | some (a', i', _) => (chk cl ds a).e c a' && (chk cl ds i).e c i'
    | none => false
  | .sl a lo hi => .of fun c x => match unSub x with
    | some (a', i', _) => (chk cl ds a).e c a' && (match unSli i' with
      | some (l, h, _) => (chk cl ds lo).o c l && (chk cl ds hi).o c h
      | none => false)
    | none => false
  | .call f args => .of fun c x => match unCall x with
    | some (y, _, es, ks, _) => ks.isEmpty && (glB c y && ((match ds[f]? with
      | some d => decide (y = Str.ofString d.name)
      | none => false) && (chk cl ds args).l c es))
    | none => false
  | .mk n args kw => .of fun c x => match unCall x with
    | some (y, _, es, ks, _) => glB c y && ((match cl[n]? with
      | some i => decide (y = Str.ofString i.name) && i.exc
      | none => false) && (match kw, ks, es with
      | false, [], es => (chk cl ds args).l c es
      | true, [⟨some z, v, _⟩], [] => decide (z = Str.ofString "value") && (chk cl ds args).l c [v]
      | _, _, _ => false))
    | none => false
  | .fld a f => .of fun c x => match unAttr x with
    | some (a', n, _) => decide (n = f) && (decide (f = Str.ofString "value") && (baseC a' && (chk cl ds a).e c a'))
    | none => false
  | .isin a ts many => .of fun c x => match unCall x with
    | some (y, _, es, ks, _) => ks.isEmpty && (decide (y = Str.ofString "isinstance") && (glB c y && (!many && (match ts, es with
      | [t], [a', t'] => okTy cl t && ((chk cl ds a).e c a' && (match unName t' with
        | some (z, _) => decide (z = Str.ofString (tyN cl t)) && glB c z
        | none => false))
      | _, _ => false))))
    | none => false
  | .bi b args => .of fun c x => match unCall x with
    | some (y, _, es, ks, _) => ks.isEmpty && (decide (y = Str.ofString (biN b)) && (glB c y && (!es.isEmpty && (chk cl ds args).l c es)))
    | none => false
  | .meth m o args => .of fun c x => match unMeth x with
    | some (o', n, ap, es, p) => decide (n = Str.ofString (meN m)) && ((ap.endLine == p.line) && (baseC o' && ((chk cl ds o).e c o' && ((chk cl ds args).l c es && (decide (es.length < 30) && (match m with | .bitlen => es.isEmpty | _ => !es.isEmpty))))))
    | none => false
  | .lc el t it cd => .of fun c x => match unLc x with
    | some (el', t', it', fs, scope, _) => (chk cl ds it).i c it' && (plainC it' && (blkC c.N c.sc scope (ownOf c t) && (tgB (ctxC c scope) t t' && ((chk cl ds el).e (ctxC c scope) el' && (match cd, fs with
      | .nil, [] => true
      | .nil, _ => false
      | cd', [f] => (chk cl ds cd).e (ctxC c scope) f
      | _, _ => false)))))
    | none => false
  | .nil => { e := fun _ _ => false, i := fun _ _ => false, l := fun _ xs => xs.isEmpty, d := fun _ ks vs => ks.isEmpty && vs.isEmpty, o := fun _ x => x.isNone }
  | .cons a r => { e := fun _ _ => false, i := fun _ _ => false
                   l := fun c xs => match xs with | [] => false | x :: xs => (chk cl ds a).e c x && (plainC x && (chk cl ds r).l c xs)
                   d := fun c ks vs => match ks with | some k :: ks => (chk cl ds a).e c k && (chk cl ds r).d' c ks vs | _ => false
                   d' := fun c ks vs => match vs with | v :: vs => (chk cl ds a).e c v && (chk cl ds r).d c ks vs | _ => false
                   o := fun c x => match x with | some x => (chk cl ds a).e c x | none => false }
  | .rng a => { e := fun _ _ => false
                i := fun c x => plainC x && (match unCall x with
                  | some (y, _, es, ks, _) => ks.isEmpty && (decide (y = Str.ofString "range") && (glB c y && (match es with
                    | [a'] => plainC a' && (chk cl ds a).e c a'
                    | _ => false)))
                  | none => false) }
end MP
end
section
set_option Elab.async false
set_option linter.all false
set_option maxRecDepth 100000
set_option maxHeartbeats 1000000
/-! MpO: a checked term reads the expression. -/
namespace MP
open PySem PySem.Spec PyProof.Rows L2

def spF (K : PySem.W.Frag) (cl : List CI) (C : Calls) (f : Nat) (d : DI) : Sp0 := fun vs H Q => vs.length = d.np ∧ RCall K cl (C f) vs H Q
structure Cxt (X : Cx) (cl : List CI) (ds : List DI) (C : Calls) (k : Nat) (c : Ctx) : Prop where
  hN : X.N = c.N
  nd : c.N.Nodup
  sc : X.env.scope = c.sc
  fw : ∀ x, c.fw x = true → X.fn x = true
  calm : X.calm = true
  rm : Room (k + 1) X.A
  gd : X.A.guards = some []
  KO : KOk X.prog X.K X.mg X.base cl
  blt : ∀ b ∈ bltNames, X.mg (Str.ofString b) = none
  fun_ : ∀ f d, ds[f]? = some d → ∃ fa fd ps, X.mg (Str.ofString d.name) = some (.ref fa) ∧ PySem.W.keepIn X.K (.ref fa) = true ∧ Binds X.K fd ps [] ∧ FnG X.prog X.w X.K X.mg X.base k fa fd ps (spF X.K cl C f d)
  bad : ∀ f vs s, (∀ d, ds[f]? = some d → vs.length ≠ d.np) → C f vs s = .bad
section
variable {X : Cx} {cl : List CI} {ds : List DI} {C : Calls} {k : Nat} {c : Ctx}
theorem Cxt.un (x : Cxt X cl ds C k c) : X.A.units + 100 < cLine := by have := x.rm.un; omega
theorem Cxt.gl (x : Cxt X cl ds C k c) {y : Str} (h : glB c y = true) : Gl X y ∧ (y == ("__debug__" : Str)) = false := by
  unfold glB at h
  rw [Bool.and_eq_true] at h
  refine ⟨?_, by simpa using h.2⟩
  show X.env.scope.names.lookup y = _
  rw [x.sc]
  exact of_decide_eq_true h.1
theorem Cxt.set (x : Cxt X cl ds C k c) {i : Nat} {y : Str} {p : Pos} (h : setB c i y = true) : PG X (.Name y p) (gName i) := by
  unfold setB at h
  rw [Bool.and_eq_true] at h
  have h1 := of_decide_eq_true h.1
  have h2 := h.2
  refine pg_name (by rw [x.hN]; exact x.nd) (by rw [x.hN]; exact h1) ?_ ?_
  · unfold L2.Loc
    rw [x.sc]
    split at h2
    · exact .inl (by assumption)
    · exact .inr (by assumption)
    · cases h2
  · rw [x.sc]
    split at h2
    · exact .inr (by assumption)
    · exact .inl (x.fw _ h2)
    · cases h2
theorem assign_map {x : Expr} {xs : List Expr} {env : PySem.Env} {y : Str} {p : Pos} (e : x = .Name y p) : (assignEach (x :: xs) env).map (·.2) = assign x env :: (assignEach xs env).map (·.2) := by subst e; rfl
theorem Cxt.tgs (h : Cxt X cl ds C k c) : ∀ {t : List Nat} {xs : List Expr}, tgs c t xs = true → PGs X xs (gNs t) ∧ (assignEach xs X.env).length = t.length ∧ (assignEach xs X.env).findIdx? (·.1) = none
  | [], [], _ => ⟨pgs_nil, rfl, rfl⟩
  | i :: t, x :: xs, e => by
    unfold MP.tgs at e
    rw [Bool.and_eq_true] at e
    cases e1 : unName x with
    | none => rw [e1] at e; exact absurd e.1 Bool.false_ne_true
    | some yp =>
      obtain ⟨y, p⟩ := yp
      rw [e1] at e
      have ex := unName_eq e1
      subst ex
      obtain ⟨h1, h2, h3⟩ := h.tgs e.2
      refine ⟨pgs_cons (h.set e.1) h1 (by rfl), ?_, ?_⟩
      · show (assignEach xs X.env).length + 1 = _
        rw [h2]; rfl
      · show ((false, assign (.Name y p) X.env) :: assignEach xs X.env).findIdx? (·.1) = none
        rw [List.findIdx?_cons, h3]
        rfl
  | [], _ :: _, e => by cases e
  | _ :: _, [], e => by cases e
theorem Cxt.tg (h : Cxt X cl ds C k c) {t : List Nat} {x : Expr} (e : tgB c t x = true) : PG X x (gT X.K t) := by
  unfold tgB at e
  cases e1 : unTup x with
  | none =>
    rw [e1] at e
    replace e : MP.tgs c t [x] = true := e
    cases t with
    | nil => cases e
    | cons i t =>
      unfold MP.tgs at e
      rw [Bool.and_eq_true] at e
      obtain ⟨e, e3⟩ := e
      cases t with
      | nil =>
        cases e2 : unName x with
        | none => rw [e2] at e; exact absurd e Bool.false_ne_true
        | some yp =>
          obtain ⟨y, p⟩ := yp
          rw [e2] at e
          have ex := unName_eq e2
          subst ex
          exact h.set e
      | cons j t => cases e3
  | some q =>
    obtain ⟨xs, kk, p⟩ := q
    rw [e1] at e
    have ex := unTup_eq e1
    subst ex
    replace e : (MP.tgs c t xs && notOne t) = true := e
    rw [Bool.and_eq_true] at e
    obtain ⟨e, e3⟩ := e
    obtain ⟨h1, h2, h3⟩ := h.tgs e
    have q := pg_tup (k := kk) (pos := p) h.calm h1 h2 h3
    cases t with
    | nil => exact q
    | cons i t => cases t with
      | nil => cases e3
      | cons j t => exact q
/-- within a comprehension's block -/
theorem Cxt.blk (h : Cxt X cl ds C k c) (s : Shared) (H : Hp) (scope : Scope) (D : Addr) (cls : List (Str × Addr)) (fp : List Addr) : Cxt (X.blk s H scope (compEnvC scope cls D X.env) fp) cl ds C k (ctxC c scope) where
  hN := h.hN
  nd := h.nd
  sc := by show relS scope X.env.scope = relS scope c.sc; rw [h.sc]
  fw := fun x e => e
  calm := h.calm
  rm := h.rm
  gd := h.gd
  KO := h.KO
  blt := h.blt
  fun_ := h.fun_
  bad := h.bad

def GE (X : Cx) (cl : List CI) (C : Calls) (m : E) (x : Expr) : Prop := PE X x (TEv X.K cl C m) ∧ PT X x (TTv X.K cl C m)
theorem ge_of {m : E} {x : Expr} (hm : ∀ env, (den cl C m).t env = tru ((den cl C m).v env)) (ht : truthC x = true) (h : PE X x (TEv X.K cl C m)) : GE X cl C m x :=
  ⟨h, PT.imp (pt_truth h (truth_he ht X.env)) fun σ H Q q => tt_val hm q⟩
structure Good (cl : List CI) (ds : List DI) (C : Calls) (k : Nat) (m : E) : Prop where
  e : ∀ (X : Cx) (c : Ctx), Cxt X cl ds C k c → ∀ x, (chk cl ds m).e c x = true → GE X cl C m x
  p : ∀ (c : Ctx) x, (chk cl ds m).e c x = true → plainC x = true
  n : ∀ (c : Ctx), (chk cl ds m).l c [] = true → m = .nil
  s : ∀ (X : Cx) (c : Ctx), Cxt X cl ds C k c → ∀ v, (chk cl ds m).l c [v] = true → ∃ a, m = .cons a .nil ∧ PE X v (TEv X.K cl C a)
  l : ∀ (X : Cx) (c : Ctx), Cxt X cl ds C k c → ∀ xs, (chk cl ds m).l c xs = true → PA X xs (TAv X.K cl C m) ∧ noStar xs = true
  d : ∀ (X : Cx) (c : Ctx), Cxt X cl ds C k c → ∀ pos ks vs, (chk cl ds m).d c ks vs = true → ∃ tr, PPs X pos ks vs tr ∧ PairE cl C X.K m tr ∧ ks.all (·.isSome) = true ∧ ks.length = vs.length
  d' : ∀ (X : Cx) (c : Ctx), Cxt X cl ds C k c → ∀ pos ks vs, (chk cl ds m).d' c ks vs = true → ∃ a r tr v vs', m = .cons a r ∧ vs = v :: vs' ∧ PE X v (TEv X.K cl C a) ∧ PPs X pos ks vs' tr ∧ PairE cl C X.K r tr ∧ ks.all (·.isSome) = true ∧ ks.length = vs'.length
  o : ∀ (X : Cx) (c : Ctx), Cxt X cl ds C k c → ∀ x, (chk cl ds m).o c x = true → PO X x (TOv X.K cl C m)
  i : ∀ (X : Cx) (c : Ctx), Cxt X cl ds C k c → ∀ tg x, (chk cl ds m).i c x = true → PI X tg x (TIv X.K cl C m) ∧ plainC x = true
theorem good_of {m : E} {e : Ctx → Expr → Bool} (hc : chk cl ds m = .of e) (hi : ∀ env, (den cl C m).i env = .bind ((den cl C m).v env) iterV) (h : ∀ (X : Cx) (c : Ctx), Cxt X cl ds C k c → ∀ x, plainC x = true → e c x = true → GE X cl C m x) : Good cl ds C k m where
  e := fun X c hx x q => by
    rw [hc] at q
    have q : (plainC x && e c x) = true := q
    rw [Bool.and_eq_true] at q
    exact h X c hx x q.1 q.2
  p := fun c x q => by
    rw [hc] at q
    have q : (plainC x && e c x) = true := q
    rw [Bool.and_eq_true] at q
    exact q.1
  n := fun c q => by rw [hc] at q; cases q
  s := fun X c hx v q => by rw [hc] at q; cases q
  l := fun X c hx xs q => by rw [hc] at q; cases q
  d := fun X c hx pos ks vs q => by rw [hc] at q; cases q
  d' := fun X c hx pos ks vs q => by rw [hc] at q; cases q
  o := fun X c hx x q => by rw [hc] at q; cases q
  i := fun X c hx tg x q => by
    rw [hc] at q
    have q : (plainC x && e c x) = true := q
    rw [Bool.and_eq_true] at q
    exact ⟨PI.imp (pi_seq (h X c hx x q.1 q.2).1) fun σ H R z => ti_seq hi z, q.1⟩
theorem te_pure {K : PySem.W.Frag} {m : E} {v : AV} {x : V} (hm : ∀ env, (den cl C m).v env = .pure v) (r : ∀ φ n H, Rv K φ n H v x) {σ : L2.St} {H : Hp} {Q : VK} (h : TEv K cl C m σ H Q) : tC x σ H Q := by
  obtain ⟨φ, st, env, S, R, h⟩ := h
  rw [hm] at h
  exact (Sat.here S (show Sat K cl φ st.n H (.ok v st) _ from h)) _ (r _ _ _)
theorem good_var (i : Nat) : Good cl ds C k (.var i) := by
  refine good_of rfl (fun _ => rfl) fun X c hx x hp q => ?_
  cases e : unName x with
  | none => rw [e] at q; cases q
  | some yp =>
    obtain ⟨y, p⟩ := yp
    rw [e] at q
    have ex := unName_eq e
    subst ex
    have q : visB c i y = true := q
    unfold visB at q
    rw [Bool.and_eq_true, Bool.and_eq_true, Bool.and_eq_true] at q
    obtain ⟨q1, q2, q3, q4⟩ := q
    refine ge_of (fun _ => rfl) rfl (PE.imp (pe_var (i := i) (by rw [hx.hN]; exact of_decide_eq_true q1) ?_ (by simpa using q3) (by simpa using q4)) fun σ H Q h => ?_)
    · unfold Vis
      rw [hx.sc]
      split at q2
      · exact .inl (by assumption)
      · exact .inr (.inl (by assumption))
      · exact .inr (.inr (by assumption))
      · cases q2
    · obtain ⟨φ, st, env, S, R, h⟩ := h
      obtain ⟨v, e1, h⟩ := sat_opt S (show Sat X.K cl φ st.n H (M.opt (env[i]?.join) st) _ from h)
      have e2 : env[i]? = some (some v) := by
        cases z : env[i]? with
        | none => rw [z] at e1; cases e1
        | some w =>
          rw [z] at e1
          have e1 : w = some v := e1
          rw [e1]
      obtain ⟨x, e3, r⟩ := R.2 i v e2
      exact ⟨x, e3, h x r⟩
theorem good_non : Good cl ds C k .non := by
  refine good_of rfl (fun _ => rfl) fun X c hx x hp q => ?_
  split at q
  · rename_i e
    obtain ⟨kk, p, rfl⟩ := unConst_eq e
    exact ge_of (fun _ => rfl) rfl (PE.imp pe_non fun σ H Q h => te_pure (fun _ => rfl) (fun _ _ _ => .non) h)
  · cases q
theorem good_bl (b : Bool) : Good cl ds C k (.bl b) := by
  refine good_of rfl (fun _ => rfl) fun X c hx x hp q => ?_
  split at q
  · rename_i b' e
    obtain ⟨kk, p, rfl⟩ := unConst_eq e
    cases (of_decide_eq_true q : b = b')
    exact ge_of (fun _ => rfl) rfl (PE.imp pe_bl fun σ H Q h => te_pure (fun _ => rfl) (fun _ _ _ => .bl b) h)
  · cases q
theorem good_int (b : Int) : Good cl ds C k (.int b) := by
  refine good_of rfl (fun _ => rfl) fun X c hx x hp q => ?_
  split at q
  · rename_i b' e
    obtain ⟨kk, p, rfl⟩ := unConst_eq e
    cases (of_decide_eq_true q : b = b')
    exact ge_of (fun _ => rfl) rfl (PE.imp pe_int fun σ H Q h => te_pure (fun _ => rfl) (fun _ _ _ => .int b) h)
  · cases q
theorem good_str (b : Str) : Good cl ds C k (.str b) := by
  refine good_of rfl (fun _ => rfl) fun X c hx x hp q => ?_
  split at q
  · rename_i b' e
    obtain ⟨kk, p, rfl⟩ := unConst_eq e
    cases (of_decide_eq_true q : b = b')
    exact ge_of (fun _ => rfl) rfl (PE.imp pe_str fun σ H Q h => te_pure (fun _ => rfl) (fun _ _ _ => .str b) h)
  · cases q
theorem good_gc (y : String) (v : AV) : Good cl ds C k (.gc y v) := good_of rfl (fun _ => rfl) fun X c hx x hp q => by cases q
theorem good_tup {es : E} (g : Good cl ds C k es) : Good cl ds C k (.tup es) := by
  refine good_of rfl (fun _ => rfl) fun X c hx x hp q => ?_
  split at q
  · rename_i xs kk p e
    have ex := unTup_eq e
    subst ex
    refine ge_of (fun _ => rfl) rfl (PE.imp (pe_tup (g.l X c hx xs q).1) fun σ H Q h => ?_)
    obtain ⟨φ, st, env, S, R, h⟩ := h
    refine (TAv.step S R (show Sat X.K cl φ st.n H (M.bind ((den cl C es).l env) (fun vs => .guard (decide (vs.length ≤ line)) (M.pure (AV.tup vs))) st) _ from h)).mono fun ys H1 ⟨φ1, st1, vs, g1, S1, rs, R1, h1⟩ => ?_
    obtain ⟨hg, h1⟩ := Sat.guard h1
    refine ⟨by rw [line_eq, ← rs.length]; exact of_decide_eq_true hg, q_tup S1 rs h1⟩
  · cases q
theorem good_lst {es : E} (g : Good cl ds C k es) : Good cl ds C k (.lst es) := by
  refine good_of rfl (fun _ => rfl) fun X c hx x hp q => ?_
  split at q
  · rename_i xs p e
    have ex := unLst_eq e
    subst ex
    refine ge_of (fun _ => rfl) rfl (PE.imp (pe_lst (g.l X c hx xs q).1) fun σ H Q h => ?_)
    obtain ⟨φ, st, env, S, R, h⟩ := h
    refine (TAv.step S R (show Sat X.K cl φ st.n H (M.bind ((den cl C es).l env) (fun vs => .guard (decide (vs.length ≤ line)) (M.new (AO.lst vs))) st) _ from h)).mono fun ys H1 ⟨φ1, st1, vs, g1, S1, rs, R1, h1⟩ => ?_
    obtain ⟨hg, h1⟩ := Sat.guard h1
    refine ⟨by rw [line_eq, ← rs.length]; exact of_decide_eq_true hg, q_new S1 rs h1⟩
  · cases q
theorem good_dic {es : E} (g : Good cl ds C k es) : Good cl ds C k (.dic es) := by
  refine good_of rfl (fun _ => rfl) fun X c hx x hp q => ?_
  split at q
  · rename_i ks vs p e
    have ex := unDict_eq e
    subst ex
    rw [Bool.and_eq_true, Bool.and_eq_true] at q
    obtain ⟨tr, h1, h2, h3, h4⟩ := g.d X c hx p ks vs q.1
    exact ge_of (fun _ => rfl) rfl (PE.imp (pe_disp h1 h3 h4 (of_decide_eq_true q.2.1) (of_decide_eq_true q.2.2)) fun σ H Q h => tev_dic h2 h)
  · cases q
theorem good_bin {o : BOp} {a b : E} (ga : Good cl ds C k a) (gb : Good cl ds C k b) : Good cl ds C k (.bin o a b) := by
  refine good_of rfl (fun _ => rfl) fun X c hx x hp q => ?_
  split at q
  · rename_i a' o' b' p e
    have ex := unBin_eq e
    subst ex
    rw [Bool.and_eq_true, Bool.and_eq_true] at q
    obtain ⟨q1, q2, q3⟩ := q
    have eo : o' = bop o := of_decide_eq_true q1
    subst eo
    exact ge_of (fun _ => rfl) rfl (PE.imp (pe_op (opb_ok (cl := cl) o) (ga.e X c hx a' q2).1 (gb.e X c hx b' q3).1) fun σ H Q h => tev_two (fun _ => rfl) h)
  · cases q
theorem un_neg_ok : UnR X (unaryOp .USub) (RUn X.K cl negA) := by
  intro pins s σ H x v Q I r h
  obtain ⟨φ, st, a, S, ra, h⟩ := h
  cases ra with
  | int i => exact un_neg pins s σ H _ v Q I r ⟨i, rfl, q_pure S (.int _) h⟩
  | _ => exact h.elim
theorem good_neg {a : E} (ga : Good cl ds C k a) : Good cl ds C k (.neg a) := by
  refine good_of rfl (fun _ => rfl) fun X c hx x hp q => ?_
  split at q
  · rename_i o a' p e
    have ex := unUn_eq e
    subst ex
    rw [Bool.and_eq_true] at q
    cases (of_decide_eq_true q.1 : o = .USub)
    exact ge_of (fun _ => rfl) rfl (PE.imp (pe_un (un_neg_ok (cl := cl)) (ga.e X c hx a' q.2).1) fun σ H Q h => tev_one (fun _ => rfl) h)
  · cases q
theorem good_cmp {o : COp} {a b : E} (ga : Good cl ds C k a) (gb : Good cl ds C k b) : Good cl ds C k (.cmp o a b) := by
  refine good_of rfl (fun _ => rfl) fun X c hx x hp q => ?_
  split at q
  · rename_i a' o' b' p e
    have ex := unCmp_eq e
    subst ex
    rw [Bool.and_eq_true, Bool.and_eq_true, Bool.and_eq_true] at q
    obtain ⟨⟨q0, q1⟩, q2, q3⟩ := q
    have eo : o' = cop o := of_decide_eq_true q1
    subst eo
    have ho : o ≠ .inn ∧ o ≠ .notin := ⟨fun z => (by subst z; cases q0), fun z => (by subst z; cases q0)⟩
    have hm : behindInMarks (cop o) b' = false := nomark b' (by cases o <;> first | decide | exact absurd rfl ho.1 | exact absurd rfl ho.2) (by cases o <;> first | decide | exact absurd rfl ho.1 | exact absurd rfl ho.2)
    have R := opc_ok (X := X) (cl := cl) (by have := hx.un; omega) o ho
    refine ⟨PE.imp (pe_cmpR R (ga.e X c hx a' q2).1 (gb.e X c hx b' q3).1 hm) fun σ H Q h => tev_two (fun _ => rfl) h, PT.imp (pt_cmpR R (ga.e X c hx a' q2).1 (gb.e X c hx b' q3).1 hm) fun σ H Q h => ?_⟩
    exact tev_two (m := .cmp o a b) (fun _ => rfl) (tt_cmp h)
  · cases q
theorem pw_of {op : PySem.BoolOp} {es : List Expr} {p : Pos} {t : TT} (h : PT X (.BoolOp op es p) t) : PW X (.BoolOp op es p) t := ⟨fun w pins s σ H Q I q => h.run pins s σ H Q I q⟩
theorem good_and {a b : E} (ga : Good cl ds C k a) (gb : Good cl ds C k b) : Good cl ds C k (.and a b) := by
  refine good_of rfl (fun _ => rfl) fun X c hx x hp q => ?_
  split at q
  · rename_i o a' b' r p e
    have ex := unBool_eq e
    subst ex
    rw [Bool.and_eq_true, Bool.and_eq_true] at q
    obtain ⟨q1, q2, q3⟩ := q
    cases (of_decide_eq_true q1 : o = .And)
    have A := ga.e X c hx a' q2
    match r, q3 with
    | [], q3 =>
      have B := gb.e X c hx b' q3
      exact ⟨PE.imp (pe_and A.1 (pe_one B.1)) fun σ H Q h => te_and h, PT.imp (pw_and A.2 (pw_and1 B.2)).pt fun σ H Q h => tt_and h⟩
    | z :: r, q3 =>
      have B := gb.e X c hx _ q3
      exact ⟨PE.imp (pe_and A.1 B.1) fun σ H Q h => te_and h, PT.imp (pw_and A.2 (pw_of B.2)).pt fun σ H Q h => tt_and h⟩
  · cases q
end
end MP
end
section
set_option Elab.async false
set_option linter.all false
set_option maxRecDepth 100000
set_option maxHeartbeats 1000000
/-! MpP: a checked term reads the expression, the rest. -/
namespace MP
open PySem PySem.Spec PyProof.Rows L2

section
variable {X : Cx} {cl : List CI} {ds : List DI} {C : Calls} {k : Nat} {c : Ctx}
theorem good_or {a b : E} (ga : Good cl ds C k a) (gb : Good cl ds C k b) : Good cl ds C k (.or a b) := by
  refine good_of rfl (fun _ => rfl) fun X c hx x hp q => ?_
  split at q
  · rename_i o a' b' r p e
    have ex := unBool_eq e
    subst ex
    rw [Bool.and_eq_true, Bool.and_eq_true] at q
    obtain ⟨q1, q2, q3⟩ := q
    cases (of_decide_eq_true q1 : o = .Or)
    have A := ga.e X c hx a' q2
    match r, q3 with
    | [], q3 =>
      have B := gb.e X c hx b' q3
      exact ⟨PE.imp (pe_or A.1 (pe_one B.1)) fun σ H Q h => te_or h, PT.imp (pw_or A.2 (pw_or1 B.2)).pt fun σ H Q h => tt_or h⟩
    | z :: r, q3 =>
      have B := gb.e X c hx _ q3
      exact ⟨PE.imp (pe_or A.1 B.1) fun σ H Q h => te_or h, PT.imp (pw_or A.2 (pw_of B.2)).pt fun σ H Q h => tt_or h⟩
  · cases q
theorem good_not {a : E} (ga : Good cl ds C k a) : Good cl ds C k (.not a) := by
  refine good_of rfl (fun _ => rfl) fun X c hx x hp q => ?_
  split at q
  · rename_i o a' p e
    have ex := unUn_eq e
    subst ex
    rw [Bool.and_eq_true] at q
    cases (of_decide_eq_true q.1 : o = .Not)
    have A := ga.e X c hx a' q.2
    exact ⟨PE.imp (pe_not A.1) fun σ H Q h => te_not h, PT.imp (pt_not A.2) fun σ H Q h => tt_not h⟩
  · cases q
theorem good_ite {t a b : E} (gt : Good cl ds C k t) (ga : Good cl ds C k a) (gb : Good cl ds C k b) : Good cl ds C k (.ite t a b) := by
  refine good_of rfl (fun _ => rfl) fun X c hx x hp q => ?_
  split at q
  · rename_i t' a' b' p e
    have ex := unIf_eq e
    subst ex
    rw [Bool.and_eq_true, Bool.and_eq_true] at q
    refine ⟨PE.imp (pe_ifExp (gt.e X c hx t' q.1).2 (ga.e X c hx a' q.2.1).1 (gb.e X c hx b' q.2.2).1) fun σ H Q h => te_ite h, ⟨fun pins s σ H Q I h => ?_⟩⟩
    obtain ⟨φ, st, env, S, R, h⟩ := h
    exact (show False from h).elim
  · cases q
theorem good_idx {a i : E} (ga : Good cl ds C k a) (gi : Good cl ds C k i) : Good cl ds C k (.idx a i) := by
  refine good_of rfl (fun _ => rfl) fun X c hx x hp q => ?_
  split at q
  · rename_i a' i' p e
    have ex := unSub_eq e
    subst ex
    rw [Bool.and_eq_true] at q
    have pi := gi.p c i' q.2
    exact ge_of (fun _ => rfl) rfl (PE.imp (pe_ix (ix_okM (cl := cl) (by have := hx.un; omega)) (ga.e X c hx a' q.1).1 (gi.e X c hx i' q.2).1 (plain_ix pi)) fun σ H Q h => tev_two (fun _ => rfl) h)
  · cases q
theorem tev_sl {K : PySem.W.Frag} {a lo hi : E} {σ : L2.St} {H : Hp} {Q : VK} (h : TEv K cl C (.sl a lo hi) σ H Q) : tSl (RSl K cl) (TEv K cl C a) (TOv K cl C lo) (TOv K cl C hi) σ H Q := by
  obtain ⟨φ, st, env, S, R, h⟩ := h
  refine (TEv.step S R (show Sat K cl φ st.n H (M.bind ((den cl C a).v env) (fun x => .bind ((den cl C lo).o env) fun l => .bind ((den cl C hi).o env) fun h => slA x l h) st) _ from h)).mono fun x H1 ⟨φ1, st1, v, g1, S1, rx, R1, h1⟩ => ?_
  refine ⟨φ1, st1, env, S1, R1, (Sat.bind h1).mono fun l φ2 st2 H2 g2 S2 h2 => ?_⟩
  exact ⟨φ2, st2, env, S2, R1.grow S1 g2, (Sat.bind h2).mono fun u φ3 st3 H3 g3 S3 h3 => ⟨φ3, st3, v, S3, (rx.grow S1 g2).grow S2 g3, h3⟩⟩
theorem good_sl {a lo hi : E} (ga : Good cl ds C k a) (gl : Good cl ds C k lo) (gh : Good cl ds C k hi) : Good cl ds C k (.sl a lo hi) := by
  refine good_of rfl (fun _ => rfl) fun X c hx x hp q => ?_
  split at q
  · rename_i a' i' p e
    have ex := unSub_eq e
    subst ex
    rw [Bool.and_eq_true] at q
    obtain ⟨q1, q2⟩ := q
    split at q2
    · rename_i l h p2 e2
      have ex := unSli_eq e2
      subst ex
      rw [Bool.and_eq_true] at q2
      exact ge_of (fun _ => rfl) rfl (PE.imp (pe_slice (sl_okM (cl := cl)) (ga.e X c hx a' q1).1 (gl.o X c hx l q2.1) (gh.o X c hx h q2.2)) fun σ H Q h => tev_sl h)
    · cases q2
  · cases q
theorem good_call {f : Nat} {args : E} (ga : Good cl ds C k args) : Good cl ds C k (.call f args) := by
  refine good_of rfl (fun _ => rfl) fun X c hx x hp q => ?_
  split at q
  · rename_i y py es ks p e
    have ex := unCall_eq e
    subst ex
    rw [Bool.and_eq_true, Bool.and_eq_true, Bool.and_eq_true] at q
    obtain ⟨q0, q1, q2, q3⟩ := q
    have ek : ks = [] := List.isEmpty_iff.mp q0
    subst ek
    split at q2
    · rename_i d ed
      have ey := of_decide_eq_true q2
      subst ey
      obtain ⟨hg, hdb⟩ := hx.gl q1
      obtain ⟨A, ns⟩ := ga.l X c hx es q3
      obtain ⟨fa, fd, ps, hm, hk, hb, F⟩ := hx.fun_ f d ed
      have spec : ∀ {vs : List V} {H : Hp} {Q : VK}, RCall X.K cl (C f) vs H Q → spF X.K cl C f d vs H Q := fun {vs H Q} h => by
        refine ⟨?_, h⟩
        obtain ⟨φ, st, as, S, r, h⟩ := h
        by_cases z : as.length = d.np
        · rw [← r.length]; exact z
        · rw [hx.bad f as st fun d' e' => by rw [ed] at e'; cases e'; exact z] at h
          exact h.elim
      match es, A, ns with
      | [], A, ns =>
        refine ge_of (fun _ => rfl) rfl (PE.imp (pe_callG0 F hx.gd (hx.rm.mono (Nat.le_succ _)) hg hm hk hb hdb) fun σ H Q h => spec ?_)
        have h := tev_call (f := C f) (a := args) (fun _ => rfl) h
        have en := ga.n c q3
        subst en
        exact tav_nil h
      | e :: es, A, ns =>
        have ns2 : plainC e = true ∧ noStar es = true := by
          unfold noStar at ns ⊢
          rw [List.all_cons, Bool.and_eq_true] at ns
          exact ns
        refine ge_of (fun _ => rfl) rfl (PE.imp (pe_callG F hx.gd (hx.rm.mono (Nat.le_succ _)) hg hm hk hb A hdb (plain_star ns2.1 _ _) (star_any ns2.2)) fun σ H Q h => ?_)
        exact (tev_call (f := C f) (a := args) (fun _ => rfl) h).mono fun xs H1 z => spec z
    · cases q2
  · cases q
theorem good_mk {n : Nat} {args : E} {kw : Bool} (ga : Good cl ds C k args) : Good cl ds C k (.mk n args kw) := by
  refine good_of rfl (fun _ => rfl) fun X c hx x hp q => ?_
  split at q
  · rename_i y py es ks p e
    have ex := unCall_eq e
    subst ex
    rw [Bool.and_eq_true, Bool.and_eq_true] at q
    obtain ⟨q1, q2, q3⟩ := q
    split at q2
    · rename_i i ed
      rw [Bool.and_eq_true] at q2
      obtain ⟨q2, q4⟩ := q2
      have ey := of_decide_eq_true q2
      subst ey
      obtain ⟨hg, hdb⟩ := hx.gl q1
      split at q3
      · obtain ⟨A, ns⟩ := ga.l X c hx es q3
        match es, A, ns, q3 with
        | [], A, ns, q3 =>
          refine ge_of (fun _ => rfl) rfl (PE.imp (pe_mk0 hx.KO hx.rm ed q4 hg hdb) fun σ H Q h => ?_)
          have h := tev_call (f := mkA cl n) (a := args) (fun _ => rfl) h
          have en := ga.n c q3
          subst en
          exact tav_nil h
        | e :: es, A, ns, q3 =>
          have ns2 : plainC e = true ∧ noStar es = true := by
            unfold noStar at ns ⊢
            rw [List.all_cons, Bool.and_eq_true] at ns
            exact ns
          refine ge_of (fun _ => rfl) rfl (PE.imp (pe_mk hx.KO hx.rm ed q4 hg hdb A (plain_star ns2.1 _ _) (star_any ns2.2)) fun σ H Q h => ?_)
          exact tev_call (f := mkA cl n) (a := args) (fun _ => rfl) h
      · rename_i z v kp
        rw [Bool.and_eq_true] at q3
        have ez := of_decide_eq_true q3.1
        subst ez
        obtain ⟨a, rfl, A⟩ := ga.s X c hx v q3.2
        refine ge_of (fun _ => rfl) rfl (PE.imp (pe_mkK hx.KO hx.rm ed q4 hg hdb A) fun σ H Q h => ?_)
        exact (tav_cons (tev_call (f := mkA cl n) (a := .cons a .nil) (fun _ => rfl) h)).mono fun x H1 h1 => tav_nil h1
      · cases q3
    · cases q2
  · cases q
theorem good_fld {a : E} {f : Str} (ga : Good cl ds C k a) : Good cl ds C k (.fld a f) := by
  refine good_of rfl (fun _ => rfl) fun X c hx x hp q => ?_
  split at q
  · rename_i a' n p e
    have ex := unAttr_eq e
    subst ex
    rw [Bool.and_eq_true, Bool.and_eq_true, Bool.and_eq_true] at q
    obtain ⟨q1, q2, q3, q4⟩ := q
    have e1 := of_decide_eq_true q1
    have e2 := of_decide_eq_true q2
    subst e1
    subst e2
    exact ge_of (fun _ => rfl) rfl (PE.imp (fld_ok hx.KO (ga.e X c hx a' q4).1 (base_ok q3 _ _)) fun σ H Q h => tev_one (fun _ => rfl) h)
  · cases q
theorem blt_of (hx : Cxt X cl ds C k c) {s : String} (h : s ∈ bltNames) : X.mg (Str.ofString s) = none := hx.blt s h
theorem ty_pe (hx : Cxt X cl ds C k c) {t : Ty} {p : Pos} (ht : okTy cl t = true) (hg : glB c (Str.ofString (tyN cl t)) = true) : PE X (.Name (Str.ofString (tyN cl t)) p) (tC (tyVal X.K cl t)) := by
  obtain ⟨hg, hdb⟩ := hx.gl hg
  cases t with
  | cls n =>
    have ht : n < cl.length := of_decide_eq_true ht
    have e : cl[n]? = some cl[n] := List.getElem?_eq_getElem ht
    have en : tyN cl (.cls n) = cl[n].name := by show (match cl[n]? with | some i => i.name | none => "") = _; rw [e]
    rw [en] at hg hdb ⊢
    exact pe_glob hg (hx.KO.nam n _ e) rfl hdb
  | int =>
    have hg : Gl X (Str.ofString "int") := hg
    show PE X (.Name (Str.ofString "int") p) _
    exact pe_bltn hg (blt_of hx (by decide)) (by decide +kernel) (show RelV (.ty "int") (.type "int") from rfl)
  | bool =>
    have hg : Gl X (Str.ofString "bool") := hg
    show PE X (.Name (Str.ofString "bool") p) _
    exact pe_bltn hg (blt_of hx (by decide)) (by decide +kernel) (show RelV (.ty "bool") (.type "bool") from rfl)
  | str =>
    have hg : Gl X (Str.ofString "str") := hg
    show PE X (.Name (Str.ofString "str") p) _
    exact pe_bltn hg (blt_of hx (by decide)) (by decide +kernel) (show RelV (.ty "str") (.type "str") from rfl)
  | list =>
    have hg : Gl X (Str.ofString "list") := hg
    show PE X (.Name (Str.ofString "list") p) _
    exact pe_bltn hg (blt_of hx (by decide)) (by decide +kernel) (show RelV (.ty "list") (.type "list") from rfl)
  | tuple =>
    have hg : Gl X (Str.ofString "tuple") := hg
    show PE X (.Name (Str.ofString "tuple") p) _
    exact pe_bltn hg (blt_of hx (by decide)) (by decide +kernel) (show RelV (.ty "tuple") (.type "tuple") from rfl)
  | dict =>
    have hg : Gl X (Str.ofString "dict") := hg
    show PE X (.Name (Str.ofString "dict") p) _
    exact pe_bltn hg (blt_of hx (by decide)) (by decide +kernel) (show RelV (.ty "dict") (.type "dict") from rfl)
  | verr =>
    have hg : Gl X (Str.ofString "ValueError") := hg
    show PE X (.Name (Str.ofString "ValueError") p) _
    exact pe_bltn hg (blt_of hx (by decide)) (by decide +kernel) (show RelV (.ty "ValueError") (.type "ValueError") from rfl)
theorem good_isin {a : E} {ts : List Ty} {many : Bool} (ga : Good cl ds C k a) : Good cl ds C k (.isin a ts many) := by
  refine good_of rfl (fun _ => rfl) fun X c hx x hp q => ?_
  split at q
  · rename_i y py es ks p e
    have ex := unCall_eq e
    subst ex
    rw [Bool.and_eq_true, Bool.and_eq_true, Bool.and_eq_true, Bool.and_eq_true] at q
    obtain ⟨q0, q1, q2, q3, q4⟩ := q
    have ek : ks = [] := List.isEmpty_iff.mp q0
    subst ek
    have ey := of_decide_eq_true q1
    subst ey
    obtain ⟨hg, hdb⟩ := hx.gl q2
    split at q4
    · rename_i t a' t'
      rw [Bool.and_eq_true, Bool.and_eq_true] at q4
      obtain ⟨q5, q6, q7⟩ := q4
      split at q7
      · rename_i z pz ez
        have ex := unName_eq ez
        subst ex
        rw [Bool.and_eq_true] at q7
        have ey := of_decide_eq_true q7.1
        subst ey
        have pa := pa_cons (ga.e X c hx a' q6).1 (pa_cons (ty_pe hx (p := pz) q5 q7.2) pa_nil (by rfl)) (plain_star (ga.p c a' q6) _ _)
        refine ge_of (fun _ => rfl) rfl (PE.imp (pe_callB (isin_ok hx.KO t) hg (blt_of hx (by decide)) (by decide +kernel) pa (he := plain_star (ga.p c a' q6) _ _)) fun σ H Q h => ?_)
        exact (tev_one (f := isinA cl [t]) (a := a) (fun _ => rfl) h).mono fun x H1 ⟨φ, st, v, S, r, z⟩ => ⟨φ, st, v, x, rfl, q5, S, r, z⟩
      · cases q7
    · cases q4
  · cases q
theorem bi_pe (hx : Cxt X cl ds C k c) {b : Bi} {p pos : Pos} {e : Expr} {es : List Expr} {t : TA} (hg : glB c (Str.ofString (biN b)) = true) (A : PA X (e :: es) t) (h1 : plainC e = true) (h2 : noStar es = true) : PE X (.Call (.Name (Str.ofString (biN b)) p) (e :: es) [] pos) (tCB (RCall X.K cl (biA b)) t) := by
  obtain ⟨hg, hdb⟩ := hx.gl hg
  have he := plain_star h1 es X.env
  have hp := star_any (pos := pos) (env := X.env) h2
  cases b with
  | len =>
    have hg : Gl X (Str.ofString "len") := hg
    exact pe_callB bi_len hg (blt_of hx (by decide)) (by decide +kernel) A (he := he) (hpl := hp)
  | sum =>
    have hg : Gl X (Str.ofString "sum") := hg
    exact pe_callB (bi_sum hx.calm) hg (blt_of hx (by decide)) (by decide +kernel) A (he := he) (hpl := hp)
  | max2 =>
    have hg : Gl X (Str.ofString "max") := hg
    exact pe_callB (bi_max2 hx.calm) hg (blt_of hx (by decide)) (by decide +kernel) A (he := he) (hpl := hp)
  | min2 =>
    have hg : Gl X (Str.ofString "min") := hg
    exact pe_callB (bi_min2 hx.calm) hg (blt_of hx (by decide)) (by decide +kernel) A (he := he) (hpl := hp)
  | int =>
    have hg : Gl X (Str.ofString "int") := hg
    exact pe_callTy bi_int hg (blt_of hx (by decide)) (by decide +kernel) A (he := he) (hpl := hp)
  | all =>
    have hg : Gl X (Str.ofString "all") := hg
    exact pe_callB (bi_all hx.calm) hg (blt_of hx (by decide)) (by decide +kernel) A (he := he) (hpl := hp)
  | list =>
    have hg : Gl X (Str.ofString "list") := hg
    exact pe_callTy bi_list hg (blt_of hx (by decide)) (by decide +kernel) A (he := he) (hpl := hp)
  | repr =>
    have hg : Gl X (Str.ofString "repr") := hg
    exact pe_callB (bi_repr hx.KO hx.gd hx.un) hg (blt_of hx (by decide)) (by decide +kernel) A (he := he) (hpl := hp)
theorem good_bi {b : Bi} {args : E} (ga : Good cl ds C k args) : Good cl ds C k (.bi b args) := by
  refine good_of rfl (fun _ => rfl) fun X c hx x hp q => ?_
  split at q
  · rename_i y py es ks p e
    have ex := unCall_eq e
    subst ex
    rw [Bool.and_eq_true, Bool.and_eq_true, Bool.and_eq_true, Bool.and_eq_true] at q
    obtain ⟨q0, q1, q2, q3, q4⟩ := q
    have ek : ks = [] := List.isEmpty_iff.mp q0
    subst ek
    have ey := of_decide_eq_true q1
    subst ey
    obtain ⟨A, ns⟩ := ga.l X c hx es q4
    match es, A, ns, q3 with
    | [], _, _, q3 => cases q3
    | e :: es, A, ns, _ =>
      have ns2 : plainC e = true ∧ noStar es = true := by
        unfold noStar at ns ⊢
        rw [List.all_cons, Bool.and_eq_true] at ns
        exact ns
      exact ge_of (fun _ => rfl) rfl (PE.imp (bi_pe hx q2 A ns2.1 ns2.2) fun σ H Q h => tev_call (f := biA b) (a := args) (fun _ => rfl) h)
  · cases q
theorem few_ok {es : List Expr} {p : Pos} {env : PySem.Env} (h : noStar es = true) (hl : es.length < 30) : ((backTo p (starEach es env)).all (fun x => !x.1) && (backToKw p (keywordEach [] env)).all (fun x => x.1.isSome)
      && decide (es.length + ([] : List Keyword).length + (if ([] : List Keyword).isEmpty then 0 else 1) < 30)) = true := by
  rw [star_all h]
  show (true && true && decide (es.length + 0 + 0 < 30)) = true
  rw [decide_eq_true (by omega)]
  rfl
theorem good_meth {m : Me} {o args : E} (go : Good cl ds C k o) (ga : Good cl ds C k args) : Good cl ds C k (.meth m o args) := by
  refine good_of rfl (fun _ => rfl) fun X c hx x hp q => ?_
  split at q
  · rename_i o' n ap es p e
    have ex := unMeth_eq e
    subst ex
    rw [Bool.and_eq_true, Bool.and_eq_true, Bool.and_eq_true, Bool.and_eq_true, Bool.and_eq_true, Bool.and_eq_true] at q
    obtain ⟨q1, q2, q3, q4, q5, q6, q7⟩ := q
    have en := of_decide_eq_true q1
    subst en
    obtain ⟨A, ns⟩ := ga.l X c hx es q5
    have O := (go.e X c hx o' q4).1
    have few := few_ok (p := p) (env := X.env) ns (of_decide_eq_true q6)
    match es, A, ns, q5, q7, few with
    | [], A, ns, q5, q7, few =>
      cases m with
      | bitlen =>
        refine ge_of (fun _ => rfl) rfl (PE.imp (pe_bits O (base_ok q3 _ _) q2) fun σ H Q h => ?_)
        have en := ga.n c q5
        subst en
        refine (tev_meth h).mono fun x H1 ⟨ty, h1⟩ => ?_
        obtain ⟨φ, st, a, vs, S, ra, rs, h2⟩ := tav_nil h1
        cases rs
        cases ra with
        | int i => exact ⟨i, rfl, q_pure S (.int _) h2⟩
        | _ => exact h2.elim
      | _ => cases q7
    | e :: es, A, ns, q5, q7, few =>
      have ns2 : plainC e = true ∧ noStar es = true := by
        unfold noStar at ns ⊢
        rw [List.all_cons, Bool.and_eq_true] at ns
        exact ns
      have he := plain_star ns2.1 es X.env
      have hpl := star_any (pos := p) (env := X.env) ns2.2
      cases m with
      | append => exact ge_of (fun _ => rfl) rfl (PE.imp (pe_bm PySem.F.plainAttrs_list PySem.F.slot_list_append PySem.F.type_list_append (me_append (cl := cl)) O A (base_ok q3 _ _) few q2 he hpl) fun σ H Q h => tev_meth h)
      | insert => exact ge_of (fun _ => rfl) rfl (PE.imp (pe_bm PySem.F.plainAttrs_list PySem.F.slot_list_insert PySem.F.type_list_insert (me_insert (cl := cl)) O A (base_ok q3 _ _) few q2 he hpl) fun σ H Q h => tev_meth h)
      | join => exact ge_of (fun _ => rfl) rfl (PE.imp (pe_bm PySem.F.plainAttrs_str PySem.F.slot_str_join PySem.F.type_str_join (me_join (cl := cl)) O A (base_ok q3 _ _) few q2 he hpl) fun σ H Q h => tev_meth h)
      | bitlen => cases q7
  · cases q
theorem own_ix {t : List Nat} : (ownOf c t).map (·.2) = t := by
  unfold ownOf
  rw [List.map_map]
  exact List.map_id _
theorem good_lc {el it cd : E} {t : List Nat} (ge : Good cl ds C k el) (gi : Good cl ds C k it) (gc : Good cl ds C k cd) : Good cl ds C k (.lc el t it cd) := by
  refine good_of rfl (fun _ => rfl) fun X c hx x hp q => ?_
  split at q
  · rename_i el' t' it' fs scope p e
    have ex := unLc_eq e
    subst ex
    rw [Bool.and_eq_true, Bool.and_eq_true, Bool.and_eq_true, Bool.and_eq_true, Bool.and_eq_true] at q
    obtain ⟨q1, q2, q3, q4, q5, q6⟩ := q
    have ok : BlkOk X.N X.env.scope scope (ownOf c t) := by rw [hx.hN, hx.sc]; exact blkOk_by q3
    have tests : ∀ (s : Shared) (H : Hp) (D : Addr) (cls : List (Str × Addr)) (fp : List Addr), PTs (X.blk s H scope (compEnvC scope cls D X.env) fp) fs (TTv X.K cl C cd) := by
      intro s H D cls fp
      have nilc : cd = .nil → fs = [] → PTs (X.blk s H scope (compEnvC scope cls D X.env) fp) fs (TTv X.K cl C cd) := by
        intro e1 e2
        subst e1 e2
        refine ⟨fun pins s σ H Q I h => pts_nil.run pins s σ H Q I ?_⟩
        obtain ⟨φ, st, env, S, R, h⟩ := h
        exact Sat.here S (show Sat X.K cl φ st.n H (.ok true st) _ from h)
      split at q6
      · exact nilc rfl rfl
      · cases q6
      · exact pts_one (gc.e _ _ (hx.blk s H scope D cls fp) _ q6).2
      · cases q6
    have L := pe_lc (pos := p) (elt := el') (tg := t') (iter := it') (ifs := fs) (scope := scope) (te := TEv X.K cl C el) (g := gT X.K t) (tt := TTv X.K cl C cd) hx.calm (by rw [hx.hN]; exact hx.nd) (gi.i X c hx t' it' q1).1 ok (fun s H D cls fp => (hx.blk s H scope D cls fp).tg q4) tests (fun s H D cls fp => (ge.e _ _ (hx.blk s H scope D cls fp) el' q5).1) (plain_fold q2 X.env)
    rw [own_ix] at L
    exact ge_of (fun _ => rfl) rfl (PE.imp L fun σ H Q h => te_lc h)
  · cases q
theorem good_nil : Good cl ds C k .nil where
  e := fun X c hx x q => by cases q
  p := fun c x q => by cases q
  n := fun c q => rfl
  s := fun X c hx v q => by cases q
  l := fun X c hx xs q => by
    have e := List.isEmpty_iff.mp (show xs.isEmpty = true from q)
    subst e
    exact ⟨PA.imp pa_nil fun σ H Q h => tav_nil h, rfl⟩
  d := fun X c hx pos ks vs q => by
    have q : (ks.isEmpty && vs.isEmpty) = true := q
    rw [Bool.and_eq_true] at q
    have e1 := List.isEmpty_iff.mp q.1
    have e2 := List.isEmpty_iff.mp q.2
    subst e1 e2
    exact ⟨[], pps_nil, .nil, rfl, rfl⟩
  d' := fun X c hx pos ks vs q => by cases q
  o := fun X c hx x q => by
    cases x with
    | some x => cases q
    | none =>
      refine ⟨fun pins s σ H Q I h => po_none.run pins s σ H Q I ?_⟩
      obtain ⟨φ, st, env, S, R, h⟩ := h
      exact Sat.here S (show Sat X.K cl φ st.n H (.ok none st) _ from h)
  i := fun X c hx tg x q => by cases q
theorem good_cons {a r : E} (ga : Good cl ds C k a) (gr : Good cl ds C k r) : Good cl ds C k (.cons a r) where
  e := fun X c hx x q => by cases q
  p := fun c x q => by cases q
  n := fun c q => by cases q
  s := fun X c hx v q => by
    have q : ((chk cl ds a).e c v && (plainC v && (chk cl ds r).l c [])) = true := q
    rw [Bool.and_eq_true, Bool.and_eq_true] at q
    have e := gr.n c q.2.2
    subst e
    exact ⟨a, rfl, (ga.e X c hx v q.1).1⟩
  l := fun X c hx xs q => by
    cases xs with
    | nil => cases q
    | cons x xs =>
      have q : ((chk cl ds a).e c x && (plainC x && (chk cl ds r).l c xs)) = true := q
      rw [Bool.and_eq_true, Bool.and_eq_true] at q
      obtain ⟨A, ns⟩ := gr.l X c hx xs q.2.2
      refine ⟨PA.imp (pa_cons (ga.e X c hx x q.1).1 A (plain_star q.2.1 _ _)) fun σ H Q h => tav_cons h, ?_⟩
      unfold noStar at ns ⊢
      rw [List.all_cons, ns, q.2.1]
      rfl
  d := fun X c hx pos ks vs q => by
    cases ks with
    | nil => cases q
    | cons kk ks =>
      cases kk with
      | none => cases q
      | some kk =>
        have q : ((chk cl ds a).e c kk && (chk cl ds r).d' c ks vs) = true := q
        rw [Bool.and_eq_true] at q
        obtain ⟨b, r', tr, v, vs', rfl, rfl, h1, h2, h3, h4, h5⟩ := gr.d' X c hx pos ks vs q.2
        refine ⟨_, pps_cons (ga.e X c hx kk q.1).1 h1 h2, .cons h3, ?_, ?_⟩
        · rw [List.all_cons, h4]; rfl
        · rw [List.length_cons, List.length_cons, h5]
  d' := fun X c hx pos ks vs q => by
    cases vs with
    | nil => cases q
    | cons v vs =>
      have q : ((chk cl ds a).e c v && (chk cl ds r).d c ks vs) = true := q
      rw [Bool.and_eq_true] at q
      obtain ⟨tr, h1, h2, h3, h4⟩ := gr.d X c hx pos ks vs q.2
      exact ⟨a, r, tr, v, vs, rfl, rfl, (ga.e X c hx v q.1).1, h1, h2, h3, h4⟩
  o := fun X c hx x q => by
    cases x with
    | none => cases q
    | some x =>
      have q : (chk cl ds a).e c x = true := q
      refine ⟨fun pins s σ H Q I h => (po_some (ga.e X c hx x q).1).run pins s σ H Q I ?_⟩
      obtain ⟨φ, st, env, S, R, h⟩ := h
      refine (TEv.step S R (show Sat X.K cl φ st.n H (M.bind ((den cl C a).v env) boundA st) _ from h)).mono fun y H1 ⟨φ1, st1, v, g1, S1, rx, R1, h1⟩ => ?_
      cases rx with
      | int j => exact ⟨j, rfl, Sat.here S1 (show Sat X.K cl φ1 st1.n H1 (.ok (some j) st1) _ from h1)⟩
      | _ => exact h1.elim
  i := fun X c hx tg x q => by cases q
theorem good_rng {a : E} (ga : Good cl ds C k a) : Good cl ds C k (.rng a) where
  e := fun X c hx x q => by cases q
  p := fun c x q => by cases q
  n := fun c q => by cases q
  s := fun X c hx v q => by cases q
  l := fun X c hx xs q => by cases q
  d := fun X c hx pos ks vs q => by cases q
  d' := fun X c hx pos ks vs q => by cases q
  o := fun X c hx x q => by cases q
  i := fun X c hx tg x q => by
    replace q : (plainC x && (match unCall x with
                  | some (y, _, es, ks, _) => ks.isEmpty && (decide (y = Str.ofString "range") && (glB c y && (match es with
                    | [a'] => plainC a' && (chk cl ds a).e c a'
                    | _ => false)))
                  | none => false)) = true := q
    rw [Bool.and_eq_true] at q
    obtain ⟨q0, q⟩ := q
    refine ⟨?_, q0⟩
    split at q
    · rename_i y py es ks p e
      have ex := unCall_eq e
      subst ex
      rw [Bool.and_eq_true, Bool.and_eq_true, Bool.and_eq_true] at q
      obtain ⟨q1, q2, q3, q4⟩ := q
      have ek : ks = [] := List.isEmpty_iff.mp q1
      subst ek
      have ey := of_decide_eq_true q2
      subst ey
      split at q4
      · rename_i a'
        rw [Bool.and_eq_true] at q4
        exact PI.imp (pi_range1 (hx.gl q3).1 (blt_of hx (by decide)) (pa_cons (ga.e X c hx a' q4.2).1 pa_nil (plain_star q4.1 _ _)) (plain_star q4.1 _ _)) fun σ H R h => ti_rng h
      · cases q4
    · cases q
/-- every checked term -/
theorem good : ∀ m : E, Good cl ds C k m
  | .var i => good_var i
  | .non => good_non
  | .bl b => good_bl b
  | .int i => good_int i
  | .str x => good_str x
  | .gc x v => good_gc x v
  | .tup es => good_tup (good es)
  | .lst es => good_lst (good es)
  | .dic es => good_dic (good es)
  | .nil => good_nil
  | .cons a r => good_cons (good a) (good r)
  | .bin o a b => good_bin (good a) (good b)
  | .neg a => good_neg (good a)
  | .cmp o a b => good_cmp (good a) (good b)
  | .and a b => good_and (good a) (good b)
  | .or a b => good_or (good a) (good b)
  | .not a => good_not (good a)
  | .ite c a b => good_ite (good c) (good a) (good b)
  | .idx a i => good_idx (good a) (good i)
  | .sl a lo hi => good_sl (good a) (good lo) (good hi)
  | .call f args => good_call (good args)
  | .mk n args kw => good_mk (good args)
  | .fld a x => good_fld (good a)
  | .isin a ts many => good_isin (good a)
  | .bi b args => good_bi (good args)
  | .meth m o args => good_meth (good o) (good args)
  | .lc el t it c => good_lc (good el) (good it) (good c)
  | .rng a => good_rng (good a)
end
end MP
end
section
set_option Elab.async false
set_option linter.all false
set_option maxRecDepth 100000
set_option maxHeartbeats 1000000
/-! MpQ: statements of the text. -/
namespace MP
open PySem PySem.Spec PyProof.Rows L2

def compC : Expr → Bool
  | .ListComp .. => true | .SetComp .. => true | .DictComp .. => true
  | _ => false
theorem swaps_no {x : Expr} (h : compC x = false) (t : Option Expr) (l : Nat) (env : PySem.Env) : swapsWith x t l env = pure false := by
  cases x <;> first | rfl | cases h
theorem sole_no {x tg : Expr} (h : compC x = false) (l : Nat) (env : PySem.Env) : swapsWithSole [tg] x l env = pure false := swaps_no h _ _ _
/-- not both tuples -/
def pairC (tg x : Expr) : Bool := match tg, x with
  | .Tuple .., .Tuple .. => true
  | .List .., .Tuple .. => true
  | _, _ => false
theorem stores_no {tg x : Expr} (h : pairC tg x = false) (env : PySem.Env) : swappedStores [tg] x env = pure none := by
  cases tg <;> cases x <;> first | rfl | cases h

/-! ### names at once -/
def parNames (kd : Str → Option NameKind) (line : Nat) (ts : List Expr) : List Str := ts.filterMap fun
    | .Name id pos => if kd id == some .local && pos.line == line then some id else none
    | _ => none
def kdOf (sc : Scope) (x : Str) : Option NameKind := sc.names.lookup x
def lineOf (ts : List Expr) : Nat := (ts.head?.map (·.pos.line)).getD 0
def isStarred : Expr → Bool | .Starred .. => true | _ => false
def parC (sc : Scope) (ts es : List Expr) : Bool := (decide (ts.length = 2) || decide (ts.length = 3)) && (decide (es.length = ts.length) && ((match sc.kind with | .function => true | _ => false) && (!(es.any isStarred) && (decide ((parNames (kdOf sc) (lineOf ts) ts).length = ts.length) && (decide ((parNames (kdOf sc) (lineOf ts) ts).eraseDups.length = (parNames (kdOf sc) (lineOf ts) ts).length) && (!(es.all (foldedForSure 8)) && !(es.all (constantsAlone 8))))))))
theorem par_stores {env : PySem.Env} {ts es : List Expr} {kt k2 pt p2} (h : parC env.scope ts es = true) : swappedStores [.Tuple ts kt pt] (.Tuple es k2 p2) env = pure (some (parNames (kdOf env.scope) (lineOf ts) ts)) := by
  unfold parC at h
  rw [Bool.and_eq_true, Bool.and_eq_true, Bool.and_eq_true, Bool.and_eq_true, Bool.and_eq_true, Bool.and_eq_true, Bool.and_eq_true] at h
  obtain ⟨h1, h2, h3, h4, h5, h6, h7, h8⟩ := h
  have h2 := of_decide_eq_true h2
  have h5 := of_decide_eq_true h5
  have h6 := of_decide_eq_true h6
  have hk : env.blockKind = .function := by
    unfold Env.blockKind
    split at h3
    · rename_i e; rw [e]; rfl
    · cases h3
  have e1 : (!(ts.length == 2 || ts.length == 3) || es.length != ts.length || env.blockKind != .function) = false := by
    rw [hk, h2]
    rcases Bool.or_eq_true_iff.mp h1 with z | z
    · rw [of_decide_eq_true z]; rfl
    · rw [of_decide_eq_true z]; rfl
  have z4 : es.any isStarred = false := by simpa using h4
  have e4 : ∀ f : Expr → Bool, (∀ x, f x = isStarred x) → es.any f = false := fun f hf => by rw [show f = isStarred from funext hf]; exact z4
  have e7 : es.all (foldedForSure 8) = false := by simpa using h7
  have e8 : es.all (constantsAlone 8) = false := by simpa using h8
  unfold swappedStores
  simp only [e1, e7, e8, Bool.false_eq_true, if_false]
  rw [if_neg (by rw [e4 _ (fun x => by cases x <;> rfl)]; exact Bool.false_ne_true)]
  show (if ((parNames (kdOf env.scope) (lineOf ts) ts).length != ts.length || (parNames (kdOf env.scope) (lineOf ts) ts).eraseDups.length != (parNames (kdOf env.scope) (lineOf ts) ts).length) = true then _ else _) = _
  have e5 : ((parNames (kdOf env.scope) (lineOf ts) ts).length != ts.length || (parNames (kdOf env.scope) (lineOf ts) ts).eraseDups.length != (parNames (kdOf env.scope) (lineOf ts) ts).length) = false := by
    rw [h6, h5]
    simp
  rw [e5]
  rfl
theorem assign_all {X : Cx} {pins : List (Addr × Obj)} {H : Hp} (hN : X.N.Nodup) : ∀ {ps : List (Str × Nat)} {vs : List V} {us : List Value} {σ : L2.St} {s : Shared} {Q : Unit → Shared → Prop}, ps.length = vs.length → Vals vs us → (∀ p ∈ ps, X.N[p.2]? = some p.1 ∧ X.env.scope.names.lookup p.1 = some .local) → Inv X pins σ H s →
    (∀ s', Inv X pins (((ps.map (·.2)).zip vs).foldl (fun s p => s.set p.1 (some p.2)) σ) H s' → Q () s') → wpAny (model X.prog X.w) X.A (assignInOrder (ps.map fun p => bindName X.env p.1) us) Q X.xe s
  | [], [], _, _, _, _, _, r, _, I, h => by
    cases r
    exact assignInOrder_nil (h _ I)
  | p :: ps, v :: vs, _, _, _, _, hl, r, hp, I, h => by
    cases r with
    | cons r1 r2 =>
      obtain ⟨q1, q2⟩ := hp p (List.mem_cons_self ..)
      refine assignInOrder_cons (wpAny_bindName (store_ok I hN q1 (.inl q2) r1 (fun s2 I4 => ?_) (.inr q2)))
      exact assign_all hN (by simpa using hl) r2 (fun p' h' => hp p' (List.mem_cons_of_mem _ h')) I4 h
  | [], _ :: _, _, _, _, _, hl, _, _, _, _ => by simp at hl
  | _ :: _, [], _, _, _, _, hl, _, _, _, _ => by simp at hl
theorem zip_rev {α β : Type} : ∀ {a : List α} {b : List β}, a.length = b.length → a.reverse.zip b.reverse = (a.zip b).reverse
  | [], [], _ => rfl
  | x :: a, y :: b, h => by
    have h : a.length = b.length := by simpa using h
    rw [List.reverse_cons, List.reverse_cons, List.zip_append (by rw [List.length_reverse, List.length_reverse]; exact h), zip_rev h]
    show (a.zip b).reverse ++ [(x, y)] = ((x, y) :: a.zip b).reverse
    rw [List.reverse_cons]
  | [], _ :: _, h => by simp at h
  | _ :: _, [], h => by simp at h
theorem ps_parN {X : Cx} {names : List Str} {is : List Nat} {ts es : List Expr} {ta : TA} {kt k2 : Nat} {pt p2 pos : Pos} (hc : X.calm = true) (hN : X.N.Nodup) (hl : names.length = is.length) (hp : ∀ p ∈ names.zip is, X.N[p.2]? = some p.1 ∧ X.env.scope.names.lookup p.1 = some .local) (ha : PA X es ta)
    (hw : swappedStores [.Tuple ts kt pt] (.Tuple es k2 p2) X.env = pure (some names)) : PS X (.Assign [.Tuple ts kt pt] (.Tuple es k2 p2) pos) (tParN is ta) := by
  refine ⟨fun pins s σ H D I h => ?_⟩
  rw [exec_Assign_arm]
  refine wpAny_bind (wpAny_standAt ?_)
  rw [sole_no rfl]
  refine wpAny_bind (wpAny_pure ?_)
  rw [if_neg (by decide)]
  refine wpAny_bind (Tuple_ (thn (ha.run _ pins s σ H _ I h) fun us s1 ⟨vs, H1, I1, r1, hl1, hl2, q1⟩ => ?_))
  have hus : us.length = names.length := by rw [← r1.length, hl1, hl]
  refine wpAny_newObj_type ?_ (by show us.toArray.size ≤ sizeLine; rw [List.size_toArray, ← r1.length, sizeLine_eq]; omega)
  have I2 : Inv X pins σ H1 { s1 with heap := s1.heap.push { cls := .type "tuple", data := .seq us.toArray } } := I1.kept (t' := s1.toks) fun b o e => Heap.get?_push_of_some _ e
  rw [hw]
  refine wpAny_bind (wpAny_pure ?_)
  show wpAny (model X.prog X.w) X.A (do rule "assign.swapped-stores"; let items ← unpackItems (.ref s1.heap.objs.size) names.length none; assignInOrder (names.reverse.map fun n => bindName X.env n) items.reverse; pure Flow.next) _ _ _
  have hsz : names.length = us.toArray.size := by rw [List.size_toArray]; exact hus.symm
  rw [hsz]
  refine wpAny_bind (wpAny_rule (wpAny_bind (unpackItems_tuple (items := us.toArray) (I.ok.hd hc) (IsTup.new s1.heap _) fun h' hx' => ?_)))
  have I3 := I2.kept (h' := h') (t' := s1.toks) fun b o e => hx' b o (Nat.ne_of_lt (Heap.lt_size e)) e
  rw [List.toList_toArray]
  have rr : Vals vs.reverse us.reverse := by
    have rev : ∀ {vs : List V} {us : List Value}, Vals vs us → Vals vs.reverse us.reverse := by
      intro vs us r
      unfold Vals at r ⊢
      induction r with
      | nil => exact .nil
      | cons h _ ih => rw [List.reverse_cons, List.reverse_cons]; exact Vals.append (show Vals _ _ from ih) (.cons h .nil)
    exact rev r1
  have em : names.reverse.map (fun n => bindName X.env n) = (names.reverse.zip is.reverse).map fun p => bindName X.env p.1 := by
    have z : (names.reverse.zip is.reverse).map (·.1) = names.reverse := List.map_fst_zip (by rw [List.length_reverse, List.length_reverse]; omega)
    have z2 : (names.reverse.zip is.reverse).map (fun p => bindName X.env p.1) = ((names.reverse.zip is.reverse).map (·.1)).map (fun n => bindName X.env n) := by rw [List.map_map]; rfl
    rw [z2, z]
  rw [em]
  refine wpAny_bind (assign_all hN (by rw [List.length_zip, List.length_reverse, List.length_reverse, List.length_reverse]; omega) rr (fun p h => ?_) I3 fun s' J => ?_)
  · refine hp p ?_
    have e : names.reverse.zip is.reverse = (names.zip is).reverse := zip_rev hl
    rw [e] at h
    exact List.mem_reverse.mp h
  · refine wpAny_pure ⟨_, H1, J, ?_⟩
    have z : (names.reverse.zip is.reverse).map (·.2) = is.reverse := List.map_snd_zip (by rw [List.length_reverse, List.length_reverse]; omega)
    rw [z]
    exact q1

/-! ### o[i] = v -/
theorem pset_ok {X : Cx} {cl : List CI} (hu : X.A.units + 1 < cLine) : PSet X (RSet X.K cl) := by
  intro pins s σ H o i v ov iv u Q I ro ri rv h
  obtain ⟨φ, st, a, kk, w, S, ra, rk, rw_, h⟩ := h
  cases ra with
  | @ref b hb =>
    cases rk with
    | int j =>
      replace h : Sat X.K cl φ st.n H (match st.g b with
        | some (.lst xs) => match ixN xs.length j with
          | some z => .ok () (st.set b (.lst (xs.set z w)))
          | none => .bad
        | _ => .bad) fun _ φ' st' H' => Q H' := h
      split at h
      · rename_i xs ea
        cases e : ixN xs.length j with
        | none => rw [e] at h; exact h.elim
        | some z =>
          rw [e] at h
          obtain ⟨vs, h1, h2⟩ := S.obj b _ ea
          have g := grow_set (o := .lst (vs.set z v)) S hb
          exact set_list pins s σ H _ _ v ov iv u Q I ro ri rv ⟨_, vs, j, z, rfl, rfl, h1, by rw [← h2.length]; exact e, h φ _ g (S.set hb ⟨_, upd_same, (Rvs.set rw_ z h2).grow S g⟩)⟩
      · exact h.elim
    | str x =>
      replace h : Sat X.K cl φ st.n H (match st.g b with
        | some (.dic kvs) => M.guard (decide (kvs.length < line)) (fun s => .ok () (s.set b (.dic (putD kvs (Sum.inr x) w)))) st
        | _ => .bad) fun _ φ' st' H' => Q H' := h
      split at h
      · rename_i kvs ea
        obtain ⟨hg, h⟩ := Sat.guard h
        obtain ⟨ks, h1, h2⟩ := S.obj b _ ea
        have g := grow_set (o := .dK (putK ks (Sum.inr x) v)) S hb
        exact set_dict hu pins s σ H _ _ v ov iv u Q I ro ri rv ⟨_, _, rfl, DPut.k (k := (Sum.inr x : Key)) h1 (by rw [← h2.length, line_eq]; exact of_decide_eq_true hg), h φ _ g (S.set hb ⟨_, upd_same, (rks_put rw_ h2).grow S g⟩)⟩
      · exact h.elim
    | _ => exact h.elim
  | _ => exact h.elim

/-! ### the check -/
def unAsg : Stmt → Option (Expr × Expr × Pos) | .Assign [tg] e p => some (tg, e, p) | _ => none
def unExp : Stmt → Option (Expr × Pos) | .Expr e p => some (e, p) | _ => none
def unIfS : Stmt → Option (Expr × List Stmt × List Stmt × Pos) | .If c a b p => some (c, a, b, p) | _ => none
def unFor : Stmt → Option (Expr × Expr × List Stmt × Pos) | .For t i b [] p => some (t, i, b, p) | _ => none
def unRet : Stmt → Option (Option Expr × Pos) | .Return e p => some (e, p) | _ => none
def unPas : Stmt → Option Pos | .Pass p => some p | _ => none
def unBrk : Stmt → Option Pos | .Break p => some p | _ => none
def unCnt : Stmt → Option Pos | .Continue p => some p | _ => none
theorem unAsg_eq {x : Stmt} {a b p} (h : unAsg x = some (a, b, p)) : x = .Assign [a] b p := by unfold unAsg at h; split at h <;> first | (cases h; rfl) | cases h
theorem unExp_eq {x : Stmt} {a p} (h : unExp x = some (a, p)) : x = .Expr a p := by unfold unExp at h; split at h <;> first | (cases h; rfl) | cases h
theorem unIfS_eq {x : Stmt} {c a b p} (h : unIfS x = some (c, a, b, p)) : x = .If c a b p := by unfold unIfS at h; split at h <;> first | (cases h; rfl) | cases h
theorem unFor_eq {x : Stmt} {c a b p} (h : unFor x = some (c, a, b, p)) : x = .For c a b [] p := by unfold unFor at h; split at h <;> first | (cases h; rfl) | cases h
theorem unRet_eq {x : Stmt} {a p} (h : unRet x = some (a, p)) : x = .Return a p := by unfold unRet at h; split at h <;> first | (cases h; rfl) | cases h
theorem unPas_eq {x : Stmt} {p} (h : unPas x = some p) : x = .Pass p := by unfold unPas at h; split at h <;> first | (cases h; rfl) | cases h
theorem unBrk_eq {x : Stmt} {p} (h : unBrk x = some p) : x = .Break p := by unfold unBrk at h; split at h <;> first | (cases h; rfl) | cases h
theorem unCnt_eq {x : Stmt} {p} (h : unCnt x = some p) : x = .Continue p := by unfold unCnt at h; split at h <;> first | (cases h; rfl) | cases h
/-- names at once: what is seen of them -/
def parB (c : Ctx) (t : List Nat) (ts es : List Expr) : Bool := parC c.sc ts es && (decide (t.length ≤ 15) && (decide ((parNames (kdOf c.sc) (lineOf ts) ts).length = t.length) && ((parNames (kdOf c.sc) (lineOf ts) ts).zip t).all fun p => decide (c.N[p.2]? = some p.1) && decide (c.sc.names.lookup p.1 = some .local)))
def chkS (cl : List CI) (ds : List DI) (c : Ctx) : MP.S → List Stmt → Bool
  | .nil, [] => true
  | .asg t e r, s :: ss => (match unAsg s with
    | some (tg, x, _) => tgB c t tg && ((chk cl ds e).e c x && (!compC x && !pairC tg x))
    | none => false) && chkS cl ds c r ss
  | .par t es r, s :: ss => (match unAsg s with
    | some (tg, x, _) => (match unTup tg, unTup x with
      | some (ts, _, _), some (xs, _, _) => parB c t ts xs && (chk cl ds es).l c xs
      | _, _ => false)
    | none => false) && chkS cl ds c r ss
  | .sub o i e r, s :: ss => (match unAsg s with
    | some (tg, x, _) => (match unSub tg with
      | some (o', i', _) => ((chk cl ds o).e c o' && (chk cl ds i).e c i') && ((chk cl ds e).e c x && !compC x)
      | none => false)
    | none => false) && chkS cl ds c r ss
  | .exp e r, s :: ss => (match unExp s with
    | some (x, _) => (chk cl ds e).e c x && !compC x
    | none => false) && chkS cl ds c r ss
  | .ite e a b r, s :: ss => (match unIfS s with
    | some (x, a', b', _) => (chk cl ds e).e c x && (chkS cl ds c a a' && chkS cl ds c b b')
    | none => false) && chkS cl ds c r ss
  | .for_ t it b r, s :: ss => (match unFor s with
    | some (tg, i, b', _) => tgB c t tg && ((chk cl ds it).i c i && chkS cl ds c b b')
    | none => false) && chkS cl ds c r ss
  | .ret e, [s] => (match unRet s with
    | some (some x, _) => (chk cl ds e).e c x
    | _ => false)
  | .retn, [s] => (match unRet s with
    | some (none, _) => true
    | _ => false)
  | .brk, [s] => (unBrk s).isSome
  | .cnt, [s] => (unCnt s).isSome
  | .pas r, s :: ss => (unPas s).isSome && chkS cl ds c r ss
  | _, _ => false
section
variable {X : Cx} {cl : List CI} {ds : List DI} {C : Calls} {k : Nat} {c : Ctx}
theorem goodS (hx : Cxt X cl ds C k c) (hp : PassesOwn (model X.prog X.w) X.A X.env X.xe) : ∀ (m : MP.S) (ss : List Stmt), chkS cl ds c m ss = true → PSs X ss (TSv X.K cl C m)
  | .nil, [], _ => PSs.imp pss_nil fun D σ H h => ts_nil h
  | .asg t e r, s :: ss, q => by
    replace q : ((match unAsg s with
      | some (tg, x, _) => tgB c t tg && ((chk cl ds e).e c x && (!compC x && !pairC tg x))
      | none => false) && chkS cl ds c r ss) = true := q
    rw [Bool.and_eq_true] at q
    obtain ⟨q, qr⟩ := q
    split at q
    · rename_i tg x p es
      have ex := unAsg_eq es
      subst ex
      rw [Bool.and_eq_true, Bool.and_eq_true, Bool.and_eq_true] at q
      obtain ⟨q1, q2, q3, q4⟩ := q
      have h1 : (assignEach [tg] X.env).map (·.2) = [assign tg X.env] := by
        have : unName tg ≠ none ∨ unTup tg ≠ none := by
          unfold tgB at q1
          cases z : unTup tg with
          | some w => exact .inr (by simp)
          | none =>
            rw [z] at q1
            cases t with
            | nil => cases q1
            | cons i t =>
              have q1 : ((match unName tg with
                | some (y, _) => setB c i y
                | none => false) && tgs c t []) = true := q1
              cases z2 : unName tg with
              | some w => exact .inl (by simp)
              | none => rw [z2] at q1; cases q1
        cases tg <;> first | rfl | exact this.elim (fun z => (z rfl).elim) (fun z => (z rfl).elim)
      exact PSs.imp (pss_cons (ps_asg (((good (cl := cl) (ds := ds) (C := C) (k := k) e).e X c hx x q2).1) (hx.tg q1) (sole_no (by simpa using q3) _ _) (stores_no (by simpa using q4) _) h1) (goodS hx hp r ss qr)) fun D σ H h => ts_asg h
    · cases q
  | .par t es r, s :: ss, q => by
    replace q : ((match unAsg s with
      | some (tg, x, _) => (match unTup tg, unTup x with
        | some (ts, _, _), some (xs, _, _) => parB c t ts xs && (chk cl ds es).l c xs
        | _, _ => false)
      | none => false) && chkS cl ds c r ss) = true := q
    rw [Bool.and_eq_true] at q
    obtain ⟨q, qr⟩ := q
    split at q
    · rename_i tg x p e
      have ex := unAsg_eq e
      subst ex
      split at q
      · rename_i ts kt pt xs k2 p2 e1 e2
        have ex := unTup_eq e1
        subst ex
        have ex := unTup_eq e2
        subst ex
        rw [Bool.and_eq_true] at q
        obtain ⟨q1, q2⟩ := q
        unfold parB at q1
        rw [Bool.and_eq_true, Bool.and_eq_true, Bool.and_eq_true] at q1
        obtain ⟨q3, q4, q5, q6⟩ := q1
        have A := (good (cl := cl) (ds := ds) (C := C) (k := k) es).l X c hx xs q2
        refine PSs.imp (pss_cons (ps_parN (names := parNames (kdOf X.env.scope) (lineOf ts) ts) (is := t) hx.calm (by rw [hx.hN]; exact hx.nd) (by rw [hx.sc]; exact of_decide_eq_true q5) (fun pp hpp => ?_) A.1 (par_stores (by rw [hx.sc]; exact q3))) (goodS hx hp r ss qr)) fun D σ H h => ts_par (of_decide_eq_true q4) h
        rw [hx.sc] at hpp
        have z := List.all_eq_true.mp q6 pp hpp
        rw [Bool.and_eq_true] at z
        rw [hx.hN, hx.sc]
        exact ⟨of_decide_eq_true z.1, of_decide_eq_true z.2⟩
      · cases q
    · cases q
  | .sub o i e r, s :: ss, q => by
    replace q : ((match unAsg s with
      | some (tg, x, _) => (match unSub tg with
        | some (o', i', _) => ((chk cl ds o).e c o' && (chk cl ds i).e c i') && ((chk cl ds e).e c x && !compC x)
        | none => false)
      | none => false) && chkS cl ds c r ss) = true := q
    rw [Bool.and_eq_true] at q
    obtain ⟨q, qr⟩ := q
    split at q
    · rename_i tg x p e1
      have ex := unAsg_eq e1
      subst ex
      split at q
      · rename_i o' i' ps e2
        have ex := unSub_eq e2
        subst ex
        rw [Bool.and_eq_true, Bool.and_eq_true, Bool.and_eq_true] at q
        obtain ⟨⟨q1, q2⟩, q3, q4⟩ := q
        have hi := (good (cl := cl) (ds := ds) (C := C) (k := k) i).p c i' q2
        have ha : ∀ v, assign (.Subscript o' i' ps) X.env v = (do
            let ov ← holding [v] (eval o' X.env)
            let iv ← holding [v, ov] (eval i' X.env)
            standAt ps
            holding [v, ov, iv] (setItem ov iv v)
            release [v, ov, iv] []) := by
          intro v
          cases i' <;> first | rfl | cases hi
        exact PSs.imp (pss_cons (ps_asg (((good (cl := cl) (ds := ds) (C := C) (k := k) e).e X c hx x q3).1) (pg_sub ((good (cl := cl) (ds := ds) (C := C) (k := k) o).e X c hx o' q1).1 ((good (cl := cl) (ds := ds) (C := C) (k := k) i).e X c hx i' q2).1 (pset_ok (cl := cl) (by have := hx.un; omega)) ha) (sole_no (by simpa using q4) _ _) (stores_no (by cases x <;> rfl) _) (by rfl)) (goodS hx hp r ss qr)) fun D σ H h => ts_sub h
      · cases q
    · cases q
  | .exp e r, s :: ss, q => by
    replace q : ((match unExp s with
      | some (x, _) => (chk cl ds e).e c x && !compC x
      | none => false) && chkS cl ds c r ss) = true := q
    rw [Bool.and_eq_true] at q
    obtain ⟨q, qr⟩ := q
    split at q
    · rename_i x p e1
      have ex := unExp_eq e1
      subst ex
      rw [Bool.and_eq_true] at q
      exact PSs.imp (pss_cons (ps_expr ((good (cl := cl) (ds := ds) (C := C) (k := k) e).e X c hx x q.1).1 (swaps_no (by simpa using q.2) _ _ _)) (goodS hx hp r ss qr)) fun D σ H h => ts_exp h
    · cases q
  | .ite e a b r, s :: ss, q => by
    replace q : ((match unIfS s with
      | some (x, a', b', _) => (chk cl ds e).e c x && (chkS cl ds c a a' && chkS cl ds c b b')
      | none => false) && chkS cl ds c r ss) = true := q
    rw [Bool.and_eq_true] at q
    obtain ⟨q, qr⟩ := q
    split at q
    · rename_i x a' b' p e1
      have ex := unIfS_eq e1
      subst ex
      rw [Bool.and_eq_true, Bool.and_eq_true] at q
      exact PSs.imp (pss_cons (ps_if ((good (cl := cl) (ds := ds) (C := C) (k := k) e).e X c hx x q.1).2 (goodS hx hp a a' q.2.1) (goodS hx hp b b' q.2.2)) (goodS hx hp r ss qr)) fun D σ H h => ts_ite h
    · cases q
  | .for_ t it b r, s :: ss, q => by
    replace q : ((match unFor s with
      | some (tg, i, b', _) => tgB c t tg && ((chk cl ds it).i c i && chkS cl ds c b b')
      | none => false) && chkS cl ds c r ss) = true := q
    rw [Bool.and_eq_true] at q
    obtain ⟨q, qr⟩ := q
    split at q
    · rename_i tg i b' p e1
      have ex := unFor_eq e1
      subst ex
      rw [Bool.and_eq_true, Bool.and_eq_true] at q
      obtain ⟨I, pl⟩ := (good (cl := cl) (ds := ds) (C := C) (k := k) it).i X c hx tg i q.2.1
      exact PSs.imp (pss_cons (ps_for hp hx.calm I (hx.tg q.1) (goodS hx hp b b' q.2.2) (plain_fold pl X.env)) (goodS hx hp r ss qr)) fun D σ H h => ts_for h
    · cases q
  | .ret e, [s], q => by
    replace q : (match unRet s with
      | some (some x, _) => (chk cl ds e).e c x
      | _ => false) = true := q
    split at q
    · rename_i x p e1
      have ex := unRet_eq e1
      subst ex
      exact PSs.imp (pss_one (ps_ret ((good (cl := cl) (ds := ds) (C := C) (k := k) e).e X c hx x q).1)) fun D σ H h => ts_ret h
    · cases q
  | .retn, [s], q => by
    replace q : (match unRet s with
      | some (none, _) => true
      | _ => false) = true := q
    split at q
    · rename_i p e1
      have ex := unRet_eq e1
      subst ex
      exact PSs.imp (pss_one ps_retN) fun D σ H h => ts_retn h
    · cases q
  | .brk, [s], q => by
    cases e1 : unBrk s with
    | none => have q : (unBrk s).isSome = true := q; rw [e1] at q; cases q
    | some p =>
      have ex := unBrk_eq e1
      subst ex
      exact PSs.imp (pss_one ps_break) fun D σ H h => ts_brk h
  | .cnt, [s], q => by
    cases e1 : unCnt s with
    | none => have q : (unCnt s).isSome = true := q; rw [e1] at q; cases q
    | some p =>
      have ex := unCnt_eq e1
      subst ex
      exact PSs.imp (pss_one ps_continue) fun D σ H h => ts_cnt h
  | .pas r, s :: ss, q => by
    replace q : ((unPas s).isSome && chkS cl ds c r ss) = true := q
    rw [Bool.and_eq_true] at q
    cases e1 : unPas s with
    | none => rw [e1] at q; exact absurd q.1 Bool.false_ne_true
    | some p =>
      have ex := unPas_eq e1
      subst ex
      exact PSs.imp (pss_cons ps_pass (goodS hx hp r ss q.2)) fun D σ H h => ts_pas h
  | .nil, _ :: _, q => by cases q
  | .asg .., [], q => by cases q
  | .par .., [], q => by cases q
  | .sub .., [], q => by cases q
  | .exp .., [], q => by cases q
  | .ite .., [], q => by cases q
  | .for_ .., [], q => by cases q
  | .ret _, [], q => by cases q
  | .ret _, _ :: _ :: _, q => by cases q
  | .retn, [], q => by cases q
  | .retn, _ :: _ :: _, q => by cases q
  | .brk, [], q => by cases q
  | .brk, _ :: _ :: _, q => by cases q
  | .cnt, [], q => by cases q
  | .cnt, _ :: _ :: _, q => by cases q
  | .pas _, [], q => by cases q
end
end MP
end
section
set_option Elab.async false
set_option linter.all false
set_option maxRecDepth 100000
set_option maxHeartbeats 1000000
/-! MpR: what is asked of the written part, as a check. -/
namespace MP
open PySem PySem.Spec PyProof.Rows L2

def eqOB (a b : Option Bool) : Bool := decide (a = b)
/-! ### an exception class with a field -/
def oexB (K : PySem.W.Frag) (C : Addr) : Bool := (match K.lookup C with
  | some ⟨.type "type", _, .cls cd, sl⟩ => (match cd.mro, sl.toList with
    | .ref C' :: bm, [_, _, _, _, some (.builtin n), _] => decide (C' = C) && (decide (n = "ValueError.__new__") && (!cd.hasDel && (cd.hasDict && PySem.HandSPX.refsVE bm)))
    | _, _ => false)
  | _ => false) && (decide (PySem.W.findIn K (.ref C) "__setattr__" = some (some (.builtin "object.__setattr__"))) && (eqOB (PySem.W.subIn K (.ref C) (.type "BaseException")) (some true) && (decide (PySem.W.typeIn K (.ref C) = some (.type "type")) && PySem.W.keepIn K (.ref C))))
theorem oexB_ok {K : PySem.W.Frag} {C : Addr} (h : oexB K C = true) : OexC K C := by
  unfold oexB at h
  rw [Bool.and_eq_true, Bool.and_eq_true, Bool.and_eq_true, Bool.and_eq_true] at h
  obtain ⟨h1, h2, h3, h4, h5⟩ := h
  refine ⟨?_, of_decide_eq_true h2, of_decide_eq_true h3, of_decide_eq_true h4, h5⟩
  split at h1
  · rename_i dd cd sl ho
    split at h1
    · rename_i C' bm k0 k1 k2 k3 n k5 hm hs
      simp only [Bool.and_eq_true, decide_eq_true_eq, Bool.not_eq_true'] at h1
      obtain ⟨rfl, rfl, hdel, hd, ht⟩ := h1
      obtain ⟨nm, bs, mro, ns, qn, hdc, sn, sub, ab, col, del⟩ := cd
      dsimp only at hm hdel hd
      subst hm hdel hd
      have hsl : sl = #[k0, k1, k2, k3, some (.builtin "ValueError.__new__"), k5] := by
        rw [← Array.toArray_toList (xs := sl), hs]
      subst hsl
      exact ⟨nm, qn, ns, bs, bm, sn, sub, ab, col, dd, k0, k1, k2, k3, k5, ho, ht⟩
    · cases h1
  · cases h1
def veBodyB : FuncBody → Option (Pos × Pos × Pos × Pos × Pos × Pos × Pos × Pos × Pos)
  | .stmts [.Expr (.Call (.Attribute (.Call (.Name s0 p0) [] [] p1) s1 p2) [] [] p3) p4, .Assign [.Attribute (.Name s2 p5) s3 p6] (.Name s4 p7) p8] =>
    if s0 = Str.ofString "super" ∧ s1 = Str.ofString "__init__" ∧ s2 = Str.ofString "self" ∧ s3 = Str.ofString "value" ∧ s4 = Str.ofString "value" ∧ (p2.endLine == p3.line) = true then some (p0, p1, p2, p3, p4, p5, p6, p7, p8) else none
  | _ => none
theorem veBodyB_ok {b : FuncBody} {p0 p1 p2 p3 p4 p5 p6 p7 p8} (h : veBodyB b = some (p0, p1, p2, p3, p4, p5, p6, p7, p8)) : b = .stmts (veBody p0 p1 p2 p3 p4 p5 p6 p7 p8) ∧ (p2.endLine == p3.line) = true := by
  unfold veBodyB at h
  split at h
  · split at h
    · rename_i e
      obtain ⟨rfl, rfl, rfl, rfl, rfl, hl⟩ := e
      cases h
      exact ⟨rfl, hl⟩
    · cases h
  · cases h
def veParB : Arguments → Option (Pos × Pos × List Expr)
  | ⟨[], [⟨n0, none, a0⟩, ⟨n1, none, a1⟩], none, [], [], none, df⟩ => if n0 = Str.ofString "self" ∧ n1 = Str.ofString "value" then some (a0, a1, df) else none
  | _ => none
theorem veParB_ok {p : Arguments} {a0 a1 df} (h : veParB p = some (a0, a1, df)) : p = veParams a0 a1 df := by
  unfold veParB at h
  split at h
  · split at h
    · rename_i e
      obtain ⟨rfl, rfl⟩ := e
      cases h
      rfl
    · cases h
  · cases h
def veScB (s : Scope) : Bool := (match s.kind with | .function => true | _ => false) && (decide (s.names = veScope.names) && (!s.isGenerator && (!s.isCoroutine && s.more.isEmpty)))
theorem veScB_ok {s : Scope} (h : veScB s = true) : s = veScope := by
  unfold veScB at h
  rw [Bool.and_eq_true, Bool.and_eq_true, Bool.and_eq_true, Bool.and_eq_true] at h
  obtain ⟨h1, h2, h3, h4, h5⟩ := h
  obtain ⟨kd, nm, g, co, mo⟩ := s
  dsimp only at h1 h2 h3 h4 h5
  have e2 := of_decide_eq_true h2
  have e3 : g = false := by simpa using h3
  have e4 : co = false := by simpa using h4
  have e5 : mo = [] := List.isEmpty_iff.mp h5
  split at h1
  · subst e2 e3 e4 e5; rfl
  · cases h1
def cellB (K : PySem.W.Frag) (cc C : Addr) : Bool := match K.lookup cc with
  | some ⟨_, _, .cell (some (.ref D)), _⟩ => decide (D = C)
  | _ => false
def codeB (P : Program) (K : PySem.W.Frag) (cda : Addr) : Bool := match K.lookup cda with
  | some ⟨_, _, .fields vs, _⟩ => (match vs[2]? with
    | some (Value.str file _) => (P.main.file : Str) == file
    | _ => false)
  | _ => false
def dfltB (K : PySem.W.Frag) (T0 : Addr) : Bool := match K.lookup T0 with
  | some ⟨_, _, .seq its _, _⟩ => (match its.toList with | [.none] => true | _ => false)
  | _ => false
def veFdB (P : Program) (K : PySem.W.Frag) (C : Addr) (fd : FuncData) : Bool := match veParB fd.params, veBodyB fd.body, fd.closure, fd.defaults, fd.code with
  | some _, some _, [(z, cc)], .ref T0, .ref cda => decide (z = Str.ofString "__class__") && (veScB fd.scope && (decide (fd.globals = mainGlobals) && (decide (fd.builtins = builtinsNs) && (PySem.W.codeIn K (.ref cda) fd.qualname && (cellB K cc C && (codeB P K cda && dfltB K T0))))))
  | _, _, _, _, _ => false
def veB (P : Program) (K : PySem.W.Frag) (C : Addr) : Bool := oexB K C && (decide (PySem.W.findIn K (.ref C) "value" = some none) && (decide (PySem.W.ks_superIn K C C "__init__" = some (some (.builtin "ValueError.__init__"))) && (eqOB (PySem.W.subIn K (.ref C) (.type "ValueError")) (some true) && (eqOB (PySem.W.mroIn K C (.ref C)) (some true) &&
  (match PySem.W.findIn K (.ref C) "__init__" with
    | some (some (.ref fI)) => decide (PySem.W.typeIn K (.ref fI) = some (.type "function")) && (match K.lookup fI with
      | some ⟨_, _, .func fd, _⟩ => veFdB P K C fd
      | _ => false)
    | _ => false)))))
theorem veB_ok {P : Program} {K : PySem.W.Frag} {C : Addr} (h : veB P K C = true) : VeC P K C := by
  unfold veB at h
  rw [Bool.and_eq_true, Bool.and_eq_true, Bool.and_eq_true, Bool.and_eq_true, Bool.and_eq_true] at h
  obtain ⟨h1, h2, h3, h4, h5, h6⟩ := h
  refine ⟨oexB_ok h1, of_decide_eq_true h2, ?_, of_decide_eq_true h3, of_decide_eq_true h4, of_decide_eq_true h5⟩
  split at h6
  · rename_i fI iC
    rw [Bool.and_eq_true] at h6
    obtain ⟨tI, h6⟩ := h6
    split at h6
    · rename_i oc od fd osl lk
      unfold veFdB at h6
      split at h6
      · rename_i pp bb z cc T0 cda e1 e2 e3 e4 e5
        obtain ⟨a0, a1, df⟩ := pp
        obtain ⟨p0, p1, p2, p3, p4, p5, p6, p7, p8⟩ := bb
        simp only [Bool.and_eq_true, decide_eq_true_eq] at h6
        obtain ⟨rfl, hs, hg, hb, hcd, hcell, hcode, hd⟩ := h6
        replace e1 := veParB_ok e1
        obtain ⟨e2', hl⟩ := veBodyB_ok e2
        clear e2
        replace hs := veScB_ok hs
        obtain ⟨name, qual, params, body, scope, globals, closure, defaults, kwd, doc, pm, an, code, ct, blt⟩ := fd
        dsimp only at e1 e2' e3 e4 e5 hs hg hb hcd
        subst e1 e2' e3 e4 e5 hs hg hb
        refine ⟨fI, cc, cda, T0, _, iC, of_decide_eq_true tI, ⟨oc, od, osl, lk⟩, ⟨name, qual, a0, a1, df, p0, p1, p2, p3, p4, p5, p6, p7, p8, kwd, doc, pm, an, ct, rfl, hcd, hl⟩, ?_, ?_, ?_⟩
        · unfold dfltB at hd
          split at hd
          · rename_i its n _ lt
            split at hd
            · rename_i e
              refine ⟨_, n, lt, ?_⟩
              show Data.seq its n = Data.seq #[.none] n
              rw [← Array.toArray_toList (xs := its), e]
            · cases hd
          · cases hd
        · unfold codeB at hcode
          split at hcode
          · rename_i vs ccs lc
            split at hcode
            · rename_i file tf e
              exact ⟨_, _, vs, ccs, file, tf, lc, e, hcode⟩
            · cases hcode
          · cases hcode
        · unfold cellB at hcell
          split at hcell
          · rename_i D csl lc
            have e := of_decide_eq_true hcell
            subst e
            exact ⟨_, _, csl, lc⟩
          · cases hcell
      · cases h6
    · cases h6
  · cases h6
/-! ### all of it -/
def excKB (K : PySem.W.Frag) (C : Addr) : Bool := (PySem.W.clsIn K C).isSome && (decide (PySem.W.findIn K (.ref C) "__getattribute__" = some (some (.builtin "BaseException.__getattribute__"))) && (decide (PySem.W.findIn K (.ref C) "__getattr__" = some none) && (eqOB (PySem.W.subIn K (.ref C) (.type "BaseException")) (some true) && (PySem.W.hasDictIn K C &&
  (decide (PySem.W.findIn K (.ref C) "__class__" = some (some (.builtin "object.__class__"))) && (eqOB (PySem.W.mroIn K C (.type "object")) (some true) && PySem.W.keepIn K (.ref C)))))))
theorem excKB_ok {K : PySem.W.Frag} {C : Addr} (h : excKB K C = true) : ExcK K C := by
  unfold excKB at h
  simp only [Bool.and_eq_true, decide_eq_true_eq] at h
  obtain ⟨h1, h2, h3, h4, h5, h6, h7, h8⟩ := h
  exact ⟨h1, h2, h3, of_decide_eq_true h4, h5, h6, of_decide_eq_true h7, h8⟩
def tags (cl : List CI) : List Tag := [.non, .bl, .int, .str, .lst, .tup, .dic] ++ (List.range cl.length).map .cls
def tys (cl : List CI) : List Ty := [.int, .bool, .str, .list, .tuple, .dict, .verr] ++ (List.range cl.length).map .cls
theorem tags_mem {cl : List CI} {g : Tag} (h : okTag cl g = true) : g ∈ tags cl := by
  unfold tags
  cases g with
  | cls c => exact List.mem_append_right _ (List.mem_map.mpr ⟨c, List.mem_range.mpr (of_decide_eq_true h), rfl⟩)
  | _ => exact List.mem_append_left _ (by simp)
theorem tys_mem {cl : List CI} {g : Ty} (h : okTy cl g = true) : g ∈ tys cl := by
  unfold tys
  cases g with
  | cls c => exact List.mem_append_right _ (List.mem_map.mpr ⟨c, List.mem_range.mpr (of_decide_eq_true h), rfl⟩)
  | _ => exact List.mem_append_left _ (by simp)
def clsB (P : Program) (K : PySem.W.Frag) (i : CI) : Bool := He.Fa.ok K (.glo (Str.ofString i.name)) && (!i.exc || (excKB K (He.ga K (Str.ofString i.name)) && (decide (PySem.W.findIn K (.ref (He.ga K (Str.ofString i.name))) "value" = some none) &&
  (if i.bare then PySem.W.excIn K (He.ga K (Str.ofString i.name)) He.veBase "ValueError.__new__" else veB P K (He.ga K (Str.ofString i.name))))))
def kitB2 (K : PySem.W.Frag) (cl : List CI) : Bool := (tags cl).all fun g => (tys cl).all fun t => eqOB (PySem.W.kitOne K (tagV K cl g) (tyU K cl t)) (some (isT cl g t))
def progB (P : Program) : Bool := !(P.main.scope.names.lookup ("super" : Str)).isSome
def koB (P : Program) (cl : List CI) (K : PySem.W.Frag) : Bool := progB P && (He.Fa.ok K (.free "super") && (decide (PySem.W.nsIn K cStatics "thirdparty.any" = some none) && ((cl.all fun i => clsB P K i) && (kitB2 K cl && (decide (PySem.W.specialIn K (.builtin "object.__class__") "__get__" = some (some (.builtin "getset_descriptor.__get__"))) && (eqOB (PySem.W.takesIn K (.builtin "object.__class__")) (some true) && (K.lookup sysModules).isSome))))))
theorem cad_eq {K : PySem.W.Frag} {cl : List CI} {c : Nat} {i : CI} (h : cl[c]? = some i) : cAd K cl c = He.ga K (Str.ofString i.name) := by
  unfold cAd
  rw [h]
theorem koB_ok {P : Program} {cl : List CI} {K : PySem.W.Frag} {mg : Str → Option Value} {base : Heap} (X : K.In base) (G : base.Ns mainGlobals mg) (h : koB P cl K = true) : KOk P K mg base cl := by
  unfold koB at h
  rw [Bool.and_eq_true, Bool.and_eq_true, Bool.and_eq_true, Bool.and_eq_true, Bool.and_eq_true, Bool.and_eq_true, Bool.and_eq_true] at h
  obtain ⟨h0, h1, h2, h3, h4, h5, h6, h7⟩ := h
  have cls : ∀ c i, cl[c]? = some i → clsB P K i = true := fun c i e => List.all_eq_true.mp h3 i (List.mem_of_getElem? e)
  have exc : ∀ c i, cl[c]? = some i → i.exc = true → excKB K (cAd K cl c) = true ∧ PySem.W.findIn K (.ref (cAd K cl c)) "value" = some none ∧ (if i.bare then PySem.W.excIn K (cAd K cl c) He.veBase "ValueError.__new__" else veB P K (cAd K cl c)) = true := fun c i e he => by
    have q := cls c i e
    unfold clsB at q
    rw [he, ← cad_eq (K := K) e] at q
    rw [Bool.and_eq_true] at q
    have q := q.2
    rw [Bool.not_true, Bool.false_or, Bool.and_eq_true, Bool.and_eq_true] at q
    exact ⟨q.1, of_decide_eq_true q.2.1, q.2.2⟩
  refine ⟨⟨He.free_ok X G h1, of_decide_eq_true h2, by unfold progB at h0; simpa using h0⟩, fun c i e he => excKB_ok (exc c i e he).1, fun c i e he hb => ?_, fun c i e he hb => ?_, fun c i e he => (exc c i e he).2.1, fun g t hg ht => ?_, of_decide_eq_true h5, of_decide_eq_true h6, ?_, fun c i e => ?_⟩
  · have q := (exc c i e he).2.2
    rw [hb] at q
    exact veB_ok q
  · have q := (exc c i e he).2.2
    rw [hb] at q
    exact ⟨He.veBase, PySem.F.excBase_ValueError, q⟩
  · exact of_decide_eq_true (List.all_eq_true.mp (List.all_eq_true.mp h4 g (tags_mem hg)) t (tys_mem ht))
  · obtain ⟨o, e⟩ := Option.isSome_iff_exists.mp h7
    exact ⟨o, X _ _ e⟩
  · have q := cls c i e
    unfold clsB at q
    rw [Bool.and_eq_true] at q
    rw [cad_eq e]
    exact He.glo_ok X G q.1
end MP
end
section
set_option Elab.async false
set_option linter.all false
set_option maxRecDepth 100000
set_option maxHeartbeats 1000000
/-! MpS: the defs; the law from the machine. -/
namespace MP
open PySem PySem.Spec PyProof.Rows L2

/-! ### plain parameters are bound in their order -/
theorem zip_lookup {α : Type} : ∀ {ps : List Str} {us : List α}, ps.Nodup → us.length = ps.length → (ps.filterMap fun n => ((ps.zip us).lookup n).map (n, ·)) = ps.zip us := by
  intro ps us nd hl
  have key : ∀ (qs : List Str) (vs : List α), qs.length = vs.length → (∀ i (h1 : i < qs.length) (h2 : i < vs.length), (ps.zip us).lookup qs[i] = some vs[i]) → (qs.filterMap fun n => ((ps.zip us).lookup n).map (n, ·)) = qs.zip vs := by
    intro qs
    induction qs with
    | nil => intro vs h _; cases vs <;> first | rfl | simp at h
    | cons q qs ih =>
      intro vs h hh
      cases vs with
      | nil => simp at h
      | cons v vs =>
        have h0 := hh 0 (by simp) (by simp)
        simp only [List.getElem_cons_zero] at h0
        rw [List.filterMap_cons, h0]
        simp only [Option.map_some, List.zip_cons_cons]
        rw [ih vs (by simpa using h) fun i h1 h2 => hh (i + 1) (Nat.succ_lt_succ h1) (Nat.succ_lt_succ h2)]
  refine key ps us hl.symm fun i h1 h2 => ?_
  clear key
  induction ps generalizing us i with
  | nil => simp at h1
  | cons q qs ih =>
    cases us with
    | nil => simp at h2
    | cons u us =>
      cases i with
      | zero => simp
      | succ i =>
        have nd2 := List.nodup_cons.mp nd
        have h1' : i < qs.length := by simpa using h1
        have h2' : i < us.length := by simpa using h2
        have ne : qs[i] ≠ q := fun e => nd2.1 (by rw [← e]; exact List.getElem_mem _)
        simp only [List.getElem_cons_succ, List.zip_cons_cons, List.lookup_cons]
        have e : (qs[i] == q) = false := by simpa using ne
        rw [e]
        exact ih nd2.2 (by simpa using hl) i h1' h2'
theorem bind_plain {fd : FuncData} {args : List Arg} {df : List (Option Expr)} {us : List Value} (hp : fd.params = ⟨[], args, none, [], df, none, []⟩) (hd : fd.defaults = .none) (nd : (args.map (·.arg)).Nodup) (hl : us.length = (args.map (·.arg)).length) : bindArgs fd ⟨us, []⟩ = pure ((args.map (·.arg)).zip us) := by
  have z := zip_lookup (us := us) nd hl
  have hs : seqItems? (Value.none) = pure none := rfl
  have hm : ∀ n, n ∈ args.map (·.arg) → (((args.map (·.arg)).zip us).lookup n).isNone = false := fun n hn => by
    cases e : ((args.map (·.arg)).zip us).lookup n with
    | some v => rfl
    | none =>
      exfalso
      have lk : ∀ {ps : List Str} {us : List Value}, n ∈ ps → us.length = ps.length → (ps.zip us).lookup n ≠ none := by
        intro ps
        induction ps with
        | nil => intro us h; cases h
        | cons q qs ih =>
          intro us h hl e
          cases us with
          | nil => simp at hl
          | cons u us =>
            rw [List.zip_cons_cons, List.lookup_cons] at e
            by_cases z : n = q
            · have z' : (n == q) = true := by simpa using z
              rw [z'] at e
              cases e
            · have z' : (n == q) = false := by simpa using z
              rw [z'] at e
              exact ih ((List.mem_cons.mp h).resolve_left z) (by simpa using hl) e
      exact lk hn hl e
  have hl' : us.length = args.length := by simpa using hl
  have hf : ∀ m, List.filter (fun n => (List.lookup n ((List.map (fun x => x.arg) args).zip us)).isNone) (List.take m (List.map (fun x => x.arg) ([] : List Arg) ++ List.map (fun x => x.arg) args)) = [] := fun m => by
    rw [List.filter_eq_nil_iff]
    intro n hn
    have hn := List.mem_of_mem_take hn
    rw [hm n (by simpa using hn)]
    exact Bool.false_ne_true
  have hz : List.filterMap ((fun n => Option.map (fun x => (n, x)) (List.lookup n ((List.map (fun x => x.arg) args).zip us))) ∘ fun x => x.arg) args = (args.map (·.arg)).zip us := by
    exact List.filterMap_map.symm.trans z
  unfold bindArgs
  rw [hp, hd, hs]
  simp
  rw [if_neg (by omega)]
  rw [if_neg (by rw [hf]; simp)]
  rw [hz]

/-! ### a def's row -/
def parmsB : Arguments → Option (List Arg × List (Option Expr))
  | ⟨[], args, none, [], df, none, []⟩ => some (args, df)
  | _ => none
theorem parmsB_ok {p : Arguments} {args df} (h : parmsB p = some (args, df)) : p = ⟨[], args, none, [], df, none, []⟩ := by
  unfold parmsB at h
  split at h <;> first | (cases h; rfl) | cases h
def fnK : ScopeKind → Bool
  | .function => true
  | _ => false
def nmsOf (d : DI) : List Str := d.names.map Str.ofString
def defB (cl : List CI) (ds : List DI) (d : DI) (D : He.DefD) : Bool := decide (D.at_ = (Str.ofString d.name, none)) && (D.dfl.isEmpty && (D.kwd.isEmpty && (match parmsB D.params with
  | some (args, _) => decide (args.length = d.np) && (decide ((nmsOf d).take (args.map (·.arg)).length = args.map (·.arg)) && (decide (nmsOf d).Nodup && (fnK D.scope.kind && (!D.scope.isCoroutine && (!D.scope.isGenerator &&
      (((args.map (·.arg)).all fun x => decide (D.scope.names.lookup x = some .local) || decide (D.scope.names.lookup x = some .cell)) && ((D.scope.names.all fun y => !decide (y.2 = .free)) && chkS cl ds ⟨nmsOf d, D.scope, fun _ => true⟩ d.body D.body)))))))
  | none => false)))
theorem renv_start {K : PySem.W.Frag} {φ : Nat → Addr} {n : Nat} {H : Hp} {d : DI} {as : List AV} {vs : List V} (r : Rvs K φ n H as vs) : Renv K φ n H (d.env as) (start (nmsOf d) vs) := by
  have hl := r.length
  have e : (nmsOf d).length = d.names.length := List.length_map _
  refine ⟨?_, fun i v h => ?_⟩
  · unfold DI.env L2.start
    rw [List.length_append, List.length_append, List.length_map, List.length_map, List.length_replicate, List.length_replicate, e, hl]
  · unfold DI.env at h
    by_cases z : i < as.length
    · rw [List.getElem?_append_left (by simpa using z), List.getElem?_map] at h
      cases q : as[i]? with
      | none => rw [q] at h; cases h
      | some w =>
        rw [q] at h
        have h : some w = some v := Option.some.inj h
        cases h
        obtain ⟨x, e1, rx⟩ := r.get q
        refine ⟨x, ?_, rx⟩
        unfold L2.start
        rw [List.getElem?_append_left (by rw [List.length_map, ← hl]; exact z), List.getElem?_map, e1]
        rfl
    · rw [List.getElem?_append_right (by simpa using z), List.getElem?_replicate] at h
      split at h <;> cases h
theorem callN_eq (cl : List CI) (ds : List DI) (n f : Nat) (vs : List AV) (s : MP.St) : callN cl ds (n + 1) f vs s = (match ds[f]? with
    | some d => M.guard (decide (vs.length = d.np)) (.bind (exec cl (callN cl ds n) d.body (d.env vs)) endF) s
    | none => .bad) := by
  show (match ds[f]? with
    | some d => M.guard (decide (vs.length = d.np)) (M.bind (exec cl (callN cl ds n) d.body (d.env vs)) endF)
    | none => M.bad) s = _
  cases ds[f]? <;> rfl
theorem callN_bad (cl : List CI) (ds : List DI) : ∀ (n f : Nat) (vs : List AV) (s : MP.St), (∀ d, ds[f]? = some d → vs.length ≠ d.np) → callN cl ds n f vs s = .bad
  | 0, _, _, _, _ => rfl
  | n + 1, f, vs, s, h => by
    rw [callN_eq]
    cases e : ds[f]? with
    | none => rfl
    | some d =>
      show M.guard (decide (vs.length = d.np)) _ s = .bad
      rw [decide_eq_false (h d e)]
      rfl
/-- a def keeps its promise, one level up -/
theorem def_fn {P : Program} {w : World} {K : PySem.W.Frag} {mg : Str → Option Value} {base : Heap} {cl : List CI} {ds : List DI} {d : DI} {D : He.DefD} {f : Nat} {fa : Addr} {fd : FuncData} (hd : ds[f]? = some d) (hB : defB cl ds d D = true)
    (F : FunD K D.name D.qual D.params D.body D.scope (D.dvs K) (D.kws K) fa fd) (KO : KOk P K mg base cl) (blt : ∀ b ∈ bltNames, mg (Str.ofString b) = none) :
    ∃ ps, Binds K fd ps [] ∧ (∀ n k, (∀ f d, ds[f]? = some d → ∃ fa fd ps, mg (Str.ofString d.name) = some (.ref fa) ∧ PySem.W.keepIn K (.ref fa) = true ∧ Binds K fd ps [] ∧ FnG P w K mg base k fa fd ps (spF K cl (callN cl ds n) f d)) →
      FnG P w K mg base (k + 2) fa fd ps (spF K cl (callN cl ds (n + 1)) f d)) ∧ FnG P w K mg base 0 fa fd ps (spF K cl (callN cl ds 0) f d) := by
  unfold defB at hB
  rw [Bool.and_eq_true, Bool.and_eq_true, Bool.and_eq_true] at hB
  obtain ⟨h1, h2, h3, h4⟩ := hB
  cases ep : parmsB D.params with
  | none => rw [ep] at h4; cases h4
  | some q =>
    obtain ⟨args, df⟩ := q
    rw [ep] at h4
    replace h4 : (decide (args.length = d.np) && (decide ((nmsOf d).take (args.map (·.arg)).length = args.map (·.arg)) && (decide (nmsOf d).Nodup && (fnK D.scope.kind && (!D.scope.isCoroutine && (!D.scope.isGenerator &&
      (((args.map (·.arg)).all fun x => decide (D.scope.names.lookup x = some .local) || decide (D.scope.names.lookup x = some .cell)) && ((D.scope.names.all fun y => !decide (y.2 = .free)) && chkS cl ds ⟨nmsOf d, D.scope, fun _ => true⟩ d.body D.body)))))))) = true := h4
    rw [Bool.and_eq_true, Bool.and_eq_true, Bool.and_eq_true, Bool.and_eq_true, Bool.and_eq_true, Bool.and_eq_true, Bool.and_eq_true, Bool.and_eq_true] at h4
    obtain ⟨q1, q2, q3, q4, q5, q6, q7, q8, q9⟩ := h4
    have eP := parmsB_ok ep
    have np := of_decide_eq_true q1
    have pre := of_decide_eq_true q2
    have nd := of_decide_eq_true q3
    have hdv : D.dvs K = [] := by unfold He.DefD.dvs; rw [List.isEmpty_iff.mp h2]; rfl
    have hkv : D.kws K = [] := by unfold He.DefD.kws; rw [List.isEmpty_iff.mp h3]; rfl
    rw [hdv, hkv] at F
    have S : FnScope (nmsOf d) (args.map (·.arg)) D.scope := by
      refine ⟨?_, by simpa using q5, by simpa using q6, nd, pre, fun x hx => ?_, fun y hy => ?_⟩
      · unfold fnK at q4
        split at q4
        · assumption
        · cases q4
      · have z := List.all_eq_true.mp q7 x hx
        rcases Bool.or_eq_true_iff.mp z with z | z
        · exact .inl (of_decide_eq_true z)
        · exact .inr (of_decide_eq_true z)
      · have z := List.all_eq_true.mp q8 y hy
        intro e
        rw [e] at z
        exact absurd z (by simp)
    have ndp : (args.map (·.arg)).Nodup := by rw [← pre]; exact nd.sublist (List.take_sublist _ _)
    obtain ⟨oc, od, dV, kV, doc, pm, an, cdv, ct, osl, rfl, lk, hcd, hD, hK⟩ := F.ex
    have hdV : dV = .none := by
      rcases hD with ⟨_, e⟩ | ⟨e, _⟩
      · exact e
      · exact absurd rfl e
    subst hdV
    have bnd : Binds K (PySem.W.fnOf D.name D.qual D.params D.body D.scope .none kV doc pm an cdv ct) (args.map (·.arg)) [] := .all fun us hl => bind_plain (args := args) (df := df) eP rfl ndp hl
    refine ⟨_, bnd, ?_, ?_⟩
    · intro n k fun_
      refine fn_ofG (k := k + 1) lk hcd S (fun vs H Q h => by rw [h.1, List.length_map, np]) fun A outer s H vs Q hgd hr h => ⟨TSv K cl (callN cl ds n) d.body, ?_, ?_⟩
      · have X : Cxt (cxOf CXF P w K mg base (nmsOf d) D.qual D.scope fa cdv A outer s H (fun _ _ _ => False)) cl ds (callN cl ds n) k ⟨nmsOf d, D.scope, fun _ => true⟩ :=
          { hN := rfl, nd := nd, sc := rfl, fw := fun _ _ => rfl, calm := rfl, rm := hr, gd := hgd, KO := KO, blt := blt, fun_ := fun_, bad := callN_bad cl ds n }
        exact goodS X (passes_of rfl) d.body D.body q9
      · obtain ⟨hl, φ, st, as, Sm, r, h⟩ := h
        rw [callN_eq, hd] at h
        obtain ⟨_, h⟩ := Sat.guard (show Sat K cl φ st.n H (M.guard (decide (as.length = d.np)) (.bind (exec cl (callN cl ds n) d.body (d.env as)) endF) st) _ from h)
        refine ⟨φ, st, d.env as, Sm, renv_start r, (Sat.bind h).mono fun fl φ1 st1 H1 g1 S1 q => ?_⟩
        cases fl with
        | nx env' => exact fun σ' R' => (Sat.here S1 (show Sat K cl φ1 st1.n H1 (.ok .non st1) (Vq K Q) from q)) _ .non
        | rt v => exact Sat.here S1 (show Sat K cl φ1 st1.n H1 (.ok v st1) (Vq K Q) from q)
        | bk env' => exact (show False from q).elim
        | ct env' => exact (show False from q).elim
    · refine ⟨fun vs H Q h => by rw [h.1, List.length_map, np], fun A outer s H args' us vs Q _ _ _ _ _ h => ?_⟩
      obtain ⟨_, φ, st, as, Sm, r, h⟩ := h
      exact (show False from h).elim

/-! ### all defs, at all levels -/
def lawB (P : Program) (cl : List CI) (fn : List He.DefD) (K : PySem.W.Frag) : Bool := (fn.all fun D => D.ok K && He.Fa.ok K (.glo D.at_.1)) && ((bltNames.all fun b => He.Fa.ok K (.free (Str.ofString b))) && (koB P cl K && K.all fun p => !decide (p.2.cls = .type "list")))
def SaysM (P : Program) (cl : List CI) (fn : List He.DefD) (K : PySem.W.Frag) : Prop := (lawB P cl fn K, fn.map fun D => He.fnW K D.at_) = (true, fn.map He.DefD.val)
def tabB (cl : List CI) (ds : List DI) (fn : List He.DefD) : Bool := decide (ds.length = fn.length) && (ds.zip fn).all fun p => defB cl ds p.1 p.2
theorem calls_ok {P : Program} {w : World} {K : PySem.W.Frag} {mg : Str → Option Value} {base : Heap} {cl : List CI} {ds : List DI} {fn : List He.DefD} (X : K.In base) (G : base.Ns mainGlobals mg) (hS : SaysM P cl fn K) (hT : tabB cl ds fn = true) :
    ∀ (n f : Nat) (d : DI), ds[f]? = some d → ∃ fa fd ps, mg (Str.ofString d.name) = some (.ref fa) ∧ PySem.W.keepIn K (.ref fa) = true ∧ Binds K fd ps [] ∧ FnG P w K mg base (2 * n) fa fd ps (spF K cl (callN cl ds n) f d) := by
  have hL : lawB P cl fn K = true := congrArg (fun z => z.1) hS
  have hV : fn.map (fun D => He.fnW K D.at_) = fn.map He.DefD.val := congrArg (fun z => z.2) hS
  unfold lawB at hL
  rw [Bool.and_eq_true, Bool.and_eq_true, Bool.and_eq_true] at hL
  obtain ⟨l1, l2, l3, l4⟩ := hL
  unfold tabB at hT
  rw [Bool.and_eq_true] at hT
  have hlen := of_decide_eq_true hT.1
  have KO : KOk P K mg base cl := koB_ok X G l3
  have blt : ∀ b ∈ bltNames, mg (Str.ofString b) = none := fun b hb => He.free_ok X G (List.all_eq_true.mp l2 b hb)
  have one : ∀ f d, ds[f]? = some d → ∃ D fd, defB cl ds d D = true ∧ FunD K D.name D.qual D.params D.body D.scope (D.dvs K) (D.kws K) (He.fAd K D.at_) fd ∧ mg (Str.ofString d.name) = some (.ref (He.fAd K D.at_)) := fun f d e => by
    have hf : f < fn.length := by rw [← hlen]; exact (List.getElem?_eq_some_iff.mp e).1
    have eD : fn[f]? = some fn[f] := List.getElem?_eq_getElem hf
    have mem : fn[f] ∈ fn := List.getElem_mem hf
    have z : (ds.zip fn)[f]? = some (d, fn[f]) := by rw [List.getElem?_zip_eq_some]; exact ⟨e, eD⟩
    have hB := List.all_eq_true.mp hT.2 (d, fn[f]) (List.mem_of_getElem? z)
    have q := List.all_eq_true.mp l1 _ mem
    rw [Bool.and_eq_true] at q
    have e2 : (fn.map fun D => He.fnW K D.at_)[f]? = (fn.map He.DefD.val)[f]? := by rw [hV]
    rw [List.getElem?_map, List.getElem?_map, eD] at e2
    obtain ⟨fd, F⟩ := He.DefD.funD (Option.some.inj e2) q.1
    have ea : fn[f].at_ = (Str.ofString d.name, none) := by
      have hB2 := hB
      unfold defB at hB2
      rw [Bool.and_eq_true] at hB2
      exact of_decide_eq_true hB2.1
    have gl := He.glo_ok X G q.2
    rw [ea] at gl
    have eA : He.fAd K fn[f].at_ = He.ga K (Str.ofString d.name) := by rw [ea]; rfl
    exact ⟨_, fd, hB, F, by rw [eA]; exact gl⟩
  intro n
  induction n with
  | zero =>
    intro f d e
    obtain ⟨D, fd, hB, F, gl⟩ := one f d e
    obtain ⟨ps, b, _, G0⟩ := def_fn (w := w) e hB F KO blt
    exact ⟨_, fd, ps, gl, F.kp, b, G0⟩
  | succ n ih =>
    intro f d e
    obtain ⟨D, fd, hB, F, gl⟩ := one f d e
    obtain ⟨ps, b, G1, _⟩ := def_fn (w := w) e hB F KO blt
    exact ⟨_, fd, ps, gl, F.kp, b, G1 n (2 * n) ih⟩
end MP
end
section
set_option Elab.async false
set_option linter.all false
set_option maxRecDepth 100000
set_option maxHeartbeats 1000000
/-! MpT: the law from the machine. -/
namespace MP
open PySem PySem.Spec PyProof.Rows L2

theorem law_callG {P : Program} {w : World} {K : PySem.W.Frag} {mg mb : Str → Option Value} {k : Nat} {fa a : Addr} {sp : Sp0} {s₁ : Shared} {vs : List Value} {ns : List Int}
    (KX : K.In s₁.heap) (hns : s₁.heap.Ns mainGlobals mg) (hb : s₁.heap.Ns builtinsNs mb) (hbb : ∀ x : Str, x ≠ "__name__" → mb x = bootBuiltins x) (hlim : s₁.heap.NoLimit) (hg : s₁.gens = #[])
    (ha : s₁.heap.get? a = some { cls := .type "list", data := .seq vs.toArray }) (hi : IntsAre vs ns) (hl : ns.length ≤ sizeLine) (hr : Room k callerA) (hk : K.lookup a = none)
    (F : ∀ base : Heap, K.In base → base.Ns mainGlobals mg → ∃ fd ps, Binds K fd ps [] ∧ FnG P w K mg base k fa fd ps sp)
    (hsp : sp [.ref a] (fun b => if b = a then some (.frz { cls := .type "list", data := .seq vs.toArray } (.lst (ns.map V.int))) else none) (fun v _ => v = .bl true)) :
    codeAny (model P w) callerA (.call (.ref fa) ⟨[.ref a], []⟩) (fun r s' => r = .ok (.ret (.bool true)) ∧ OldK s₁.heap s'.heap ∧ s'.os = s₁.os ∧ AllBare s'.gens) s₁ := by
  have rv := vals_ints hi
  have lenV := hi.length
  generalize hH : (fun b => if b = a then some (.frz { cls := .type "list", data := .seq vs.toArray } (.lst (ns.map V.int))) else none : Hp) = H at hsp
  have Ha : H a = some (.frz { cls := .type "list", data := .seq vs.toArray } (.lst (ns.map V.int))) := by rw [← hH]; exact if_pos rfl
  have Hn : ∀ b, b ≠ a → H b = none := fun b hb => by rw [← hH]; exact if_neg hb
  have hA : ∀ b, H b ≠ none → b = a := fun b z => by
    by_cases hb : b = a
    · exact hb
    · exact absurd (Hn b hb) z
  have hok : HOk P w H s₁.heap := fun b u z => by
    by_cases hb : b = a
    · subst hb
      rw [Ha] at z
      cases z
      exact ⟨ha, by rw [List.length_map]; exact hl, vs, _, rv, ha⟩
    · rw [Hn b hb] at z; cases z
  have base_of : ∀ {b : Addr} {o : Obj}, s₁.heap.get? b = some o → H b = none → (hidT s₁.heap H).get? b = some o := fun e n => hidT_get e n
  have noA : ∀ {b : Addr} {o : Obj} {es : Array DictEntry} {ep : Nat}, s₁.heap.get? b = some o → o.data = .dict es ep → H b = none := fun {b o es ep} e d => by
    cases q : H b with
    | none => rfl
    | some u =>
      have e' : b = a := hA b (by rw [q]; simp)
      subst e'
      rw [ha] at e; cases e
      have d' : Data.seq vs.toArray _ = Data.dict es ep := d
      cases d'
  have nsK : ∀ {b : Addr} {m : Str → Option Value}, s₁.heap.Ns b m → (hidT s₁.heap H).Ns b m := fun {b m} ⟨o, es, ep, e, d, r⟩ => ⟨o, es, ep, base_of e (noA e d), d, r⟩
  have hKb : K.In (hidT s₁.heap H) := fun b o e => base_of (KX b o e) (by
    cases q : H b with
    | none => rfl
    | some u =>
      have e' : b = a := hA b (by rw [q]; simp)
      subst e'
      rw [hk] at e; cases e)
  have hM : Mod K mg (hidT s₁.heap H) := ⟨hKb, nsK hns, ⟨mb, nsK hb, hbb⟩, let ⟨mc, h1, h2⟩ := hlim; ⟨mc, nsK h1, h2⟩⟩
  have e0 : Env0 P w K mg (hidT s₁.heap H) callerA [] s₁ H := ⟨rfl, hM, fun b o e => of_hidT e, Nat.le_of_eq (hidT_size _ _), trivial, fun b hb => absurd (show b ∈ ([] : List Addr) from hb) (by simp), hok, .of_eq hg⟩
  obtain ⟨fd, ps, hbind, FF⟩ := F _ hKb (nsK hns)
  have hps : ([Value.ref a] ++ []).length = ps.length := by rw [← FF.len _ _ _ hsp]; rfl
  have hbd := hbind s₁ [.ref a] KX hps
  refine codeAny_mono (FF.run callerA [] s₁ H ⟨[.ref a], []⟩ [.ref a] [.ref a] _ rfl hr e0 hbd (.cons rfl .nil) hsp) fun r s' h => ?_
  cases r with
  | error e => exact h.elim
  | ok fl =>
    cases fl with
    | next => exact False.elim h
    | brk => exact False.elim h
    | cont => exact False.elim h
    | ret u =>
      obtain ⟨v, H', os, bare, un, hok', r', q⟩ := h
      have q' : v = .bl true := q
      subst q'
      obtain rfl : u = Value.bool true := r'
      refine ⟨rfl, OldK.of_keep fun b o e => ?_, os, bare⟩
      cases q : H b with
      | none => exact un.keep b o e q (by intro z; exact absurd (show b ∈ ([] : List Addr) from z) (by simp)) (by simp)
      | some u =>
        have eb : b = a := hA b (by rw [q]; simp)
        subst eb
        have z2 := un.frzs b _ _ Ha
        obtain ⟨e1, _⟩ := hok b _ Ha
        obtain ⟨e2, _⟩ := hok' b _ z2
        rw [e] at e1; cases e1
        exact e2

/-! ### the head's hook -/
def asM (g : Addr → Option Obj) (n : Nat) : List Addr := (sysModules :: cStatics :: He.asD g n).filter fun a => match g a with
  | some o => !decide (o.cls = .type "list")
  | none => false
abbrev AlM : Type := Bool × List He.FnW
def obsM (P : Program) (cl : List CI) (fn : List He.DefD) (K : PySem.W.Frag) : AlM := (lawB P cl fn K, fn.map fun D => He.fnW K D.at_)
def obsMG (P : Program) (cl : List CI) (n : Nat) (fn : List He.DefD) (g : Addr → Option Obj) : AlM := obsM P cl fn (He.frG g (asM g n))
def hookM (P : Program) (cl : List CI) (n : Nat) (fn : List He.DefD) : PySem.W.Hook where
  α := AlM
  obs := fun s => obsMG P cl n fn s.heap.get?
  val := fun _ => (true, fn.map He.DefD.val)
  says := fun _ h => ∃ K : PySem.W.Frag, K.In h ∧ SaysM P cl fn K
  of := fun _ _ e => ⟨_, He.frG_in, e⟩
  keeps := fun _ _ _ ⟨K, hK, c⟩ k => ⟨K, PySem.W.Frag.In.keeps hK k, c⟩
theorem obsMG_eq {P : Program} {cl : List CI} {n : Nat} {fn : List He.DefD} {g : Addr → Option Obj} {s : Shared} (h : ∀ a, g a = s.heap.get? a) : obsMG P cl n fn g = (hookM P cl n fn).obs s := by
  have e : g = s.heap.get? := funext h
  subst e
  rfl
/-- the store at the law's entry: the script -/
def st0 (ns : List Int) : MP.St := ⟨1, fun a => if a = 0 then some (.flst (ns.map AV.int)) else none⟩
theorem ints_rvs {K : PySem.W.Frag} {φ : Nat → Addr} {n : Nat} {H : Hp} : ∀ ns : List Int, Rvs K φ n H (ns.map AV.int) (ns.map V.int)
  | [] => .nil
  | i :: ns => .cons (.int i) (ints_rvs ns)
theorem lookup_memN {β : Type} : ∀ {l : List (Nat × β)} {a : Nat} {o : β}, l.lookup a = some o → (a, o) ∈ l
  | [], _, _, h => by cases h
  | (b, u) :: l, a, o, h => by
    rw [List.lookup_cons] at h
    by_cases e : a = b
    · subst e
      have z : (a == a) = true := by simp
      rw [z] at h
      cases h
      exact List.mem_cons_self ..
    · have z : (a == b) = false := by simpa using e
      rw [z] at h
      exact List.mem_cons_of_mem _ (lookup_memN h)
theorem walk_M {l : PySem.W.OpenLaw} {q : Program} {loose : List Str} {XP : (Str → Option Value) → Heap → Prop} {d : DefRec} {cl : List CI} {ds : List DI} {fn : List He.DefD} {f lvl hn : Nat} {dl : DI}
    (h63 : l.most = some 63) (hdf : d.params.defaults = []) (hr : Room (2 * lvl) callerA) (hf : ds[f]? = some dl) (hnm : Str.ofString dl.name = d.name) (hnp : dl.np = 1) (hT : tabB cl ds fn = true)
    (hM : ∀ ns : List Int, ns.length ≤ 63 → (∀ k ∈ ns, Builtin.Int.intBits k ≤ 1048576) → ∃ st', callN cl ds lvl f [.ref 0] (st0 ns) = .ok (.bl true) st') :
    PySem.W.WalkO q loose XP (hookM l.prog cl hn fn).says l.row.toRowW d [] (fun f vs => PySem.call f vs) := by
  refine Att.attach_callB h63 hdf fun w s₀ s₁ mg mb fa o pm cd doc a vs ns G Y ho hd hcd hmg hobj hints hlen hbits hg => ?_
  obtain ⟨K, KX, c⟩ := Y
  have hk : K.lookup a = none := by
    cases e : K.lookup a with
    | none => rfl
    | some o =>
      exfalso
      have z := KX a o e
      rw [hobj] at z
      cases z
      have hL : lawB l.prog cl fn K = true := congrArg (fun z => z.1) c
      unfold lawB at hL
      rw [Bool.and_eq_true, Bool.and_eq_true, Bool.and_eq_true] at hL
      have mem : (a, ({ cls := .type "list", data := .seq vs.toArray } : Obj)) ∈ K := lookup_memN e
      have q := List.all_eq_true.mp hL.2.2.2 _ mem
      simp at q
  have one : ∀ base : Heap, K.In base → base.Ns mainGlobals mg → ∃ fd ps, Binds K fd ps [] ∧ FnG l.prog w K mg base (2 * lvl) fa fd ps (spF K cl (callN cl ds lvl) f dl) := fun base X Gb => by
    obtain ⟨fa', fd, ps, e1, _, b, F⟩ := calls_ok (w := w) X Gb c hT lvl f dl hf
    rw [hnm] at e1
    have e2 := hmg.symm.trans e1
    cases e2
    exact ⟨fd, ps, b, F⟩
  refine law_callG (sp := spF K cl (callN cl ds lvl) f dl) KX G.T.g G.T.b G.T.builtins G.T.nolimit hg hobj hints (Nat.le_trans hlen (by decide)) hr hk one ?_
  obtain ⟨st', hm⟩ := hM ns hlen hbits
  refine ⟨by rw [hnp]; rfl, fun _ => a, st0 ns, [.ref 0], ?_, .cons (.ref (Nat.lt_succ_self 0)) .nil, ?_⟩
  · refine ⟨fun b o e => ?_, fun b o e => ?_, fun b hb => ?_, fun b c hb hc _ => ?_⟩
    · have e : (if b = 0 then some (AO.flst (ns.map AV.int)) else none) = some o := e
      by_cases z : b = 0
      · rw [if_pos z] at e
        cases e
        exact ⟨_, _, if_pos rfl, ints_rvs ns⟩
      · rw [if_neg z] at e; cases e
    · have e : (if b = 0 then some (AO.flst (ns.map AV.int)) else none) = some o := e
      by_cases z : b = 0
      · subst z; exact Nat.lt_succ_self 0
      · rw [if_neg z] at e; cases e
    · have hb : b < 1 := hb
      exact ⟨_, if_pos (by omega)⟩
    · have hb : b < 1 := hb
      have hc : c < 1 := hc
      omega
  · rw [hm]
    intro φ' H' _ _ z rz
    cases rz
    rfl
end MP
end
section
set_option Elab.async false
set_option linter.all false
set_option maxRecDepth 100000
set_option maxHeartbeats 1000000
/-! MpU: runs of the machine, forwards. -/
namespace MP
open PySem

/-- the outcome is a value with P -/
def Rn {α : Type} (o : Out α) (P : α → St → Prop) : Prop := ∃ v s', o = .ok v s' ∧ P v s'
section
variable {α β : Type} {s : St} {P : α → St → Prop}
theorem Rn.ok {v : α} (h : P v s) : Rn (.ok v s) P := ⟨v, s, rfl, h⟩
theorem Rn.pure {v : α} (h : P v s) : Rn (M.pure v s) P := ⟨v, s, rfl, h⟩
theorem Rn.bind {m : M β} {k : β → M α} (h : Rn (m s) fun v s1 => Rn (k v s1) P) : Rn (M.bind m k s) P := by
  obtain ⟨v, s1, e, w, s2, e2, q⟩ := h
  refine ⟨w, s2, ?_, q⟩
  unfold M.bind
  rw [e]
  exact e2
theorem Rn.mono {o : Out α} {Q : α → St → Prop} (h : Rn o Q) (hq : ∀ v s', Q v s' → P v s') : Rn o P := by
  obtain ⟨v, s1, e, q⟩ := h
  exact ⟨v, s1, e, hq _ _ q⟩
theorem Rn.guard {b : Bool} {m : M α} (hb : b = true) (h : Rn (m s) P) : Rn (M.guard b m s) P := by
  subst hb
  exact h
theorem Rn.opt {o : Option α} {v : α} (e : o = some v) (h : P v s) : Rn (M.opt o s) P := by
  subst e
  exact ⟨v, s, rfl, h⟩
theorem Rn.of {o : Out α} {v : α} {s' : St} (e : o = .ok v s') (h : P v s') : Rn o P := ⟨v, s', e, h⟩
theorem Rn.eq {o o' : Out α} (e : o = o') (h : Rn o' P) : Rn o P := e ▸ h
end
section
variable {cl : List CI} {C : Calls} {env : Env} {s : St}
section
variable {P : AV → St → Prop} {a b c r es args o i lo hi el it : E}
theorem v_var {j : Nat} {v : AV} (e : env[j]?.join = some v) (h : P v s) : Rn ((den cl C (.var j)).v env s) P := Rn.opt e h
theorem v_non (h : P .non s) : Rn ((den cl C .non).v env s) P := Rn.ok h
theorem v_bl {k : Bool} (h : P (.bl k) s) : Rn ((den cl C (.bl k)).v env s) P := Rn.ok h
theorem v_int {k : Int} (h : P (.int k) s) : Rn ((den cl C (.int k)).v env s) P := Rn.ok h
theorem v_str {k : Str} (h : P (.str k) s) : Rn ((den cl C (.str k)).v env s) P := Rn.ok h
theorem v_tup (h : Rn ((den cl C es).l env s) fun vs s1 => vs.length ≤ line ∧ P (.tup vs) s1) : Rn ((den cl C (.tup es)).v env s) P :=
  Rn.bind (h.mono fun vs s1 q => Rn.guard (decide_eq_true q.1) (Rn.ok q.2))
theorem v_lst (h : Rn ((den cl C es).l env s) fun vs s1 => vs.length ≤ line ∧ P (.ref s1.n) (s1.push (.lst vs))) : Rn ((den cl C (.lst es)).v env s) P :=
  Rn.bind (h.mono fun vs s1 q => Rn.guard (decide_eq_true q.1) (Rn.ok q.2))
theorem v_dic (h : Rn ((den cl C es).l env (s.push (.dic []))) fun vs s1 => Rn (dicP (.ref s.n) vs s1) P) : Rn ((den cl C (.dic es)).v env s) P := by
  show Rn (M.bind (M.new (.dic [])) (fun r => M.bind ((den cl C es).l env) fun vs => dicP r vs) s) P
  refine Rn.bind (Rn.of (v := .ref s.n) (s' := s.push (.dic [])) rfl ?_)
  exact Rn.bind h
theorem v_bin {op : BOp} (h : Rn ((den cl C a).v env s) fun x s1 => Rn ((den cl C b).v env s1) fun y s2 => Rn (opB op x y s2) P) : Rn ((den cl C (.bin op a b)).v env s) P := Rn.bind (h.mono fun _ _ q => Rn.bind q)
theorem v_neg (h : Rn ((den cl C a).v env s) fun x s1 => Rn (negA x s1) P) : Rn ((den cl C (.neg a)).v env s) P := Rn.bind h
theorem v_cmp {op : COp} (h : Rn ((den cl C a).v env s) fun x s1 => Rn ((den cl C b).v env s1) fun y s2 => Rn (opC op x y s2) fun k s3 => P (.bl k) s3) : Rn ((den cl C (.cmp op a b)).v env s) P :=
  Rn.bind (h.mono fun _ _ q => Rn.bind (q.mono fun _ _ q => Rn.bind (q.mono fun _ _ q => Rn.ok q)))
theorem v_and (h : Rn ((den cl C a).v env s) fun x s1 => ∃ k, x = .bl k ∧ Rn (iteM k ((den cl C b).v env) (.pure (.bl false)) s1) P) : Rn ((den cl C (.and a b)).v env s) P :=
  Rn.bind (h.mono fun _ _ ⟨k, e, q⟩ => by subst e; exact Rn.bind (Rn.ok q))
theorem v_or (h : Rn ((den cl C a).v env s) fun x s1 => ∃ k, x = .bl k ∧ Rn (iteM k (.pure (.bl true)) ((den cl C b).v env) s1) P) : Rn ((den cl C (.or a b)).v env s) P :=
  Rn.bind (h.mono fun _ _ ⟨k, e, q⟩ => by subst e; exact Rn.bind (Rn.ok q))
theorem v_not (h : Rn ((den cl C a).v env s) fun x s1 => ∃ k, x = .bl k ∧ P (.bl (!k)) s1) : Rn ((den cl C (.not a)).v env s) P :=
  Rn.bind (h.mono fun _ _ ⟨k, e, q⟩ => by subst e; exact Rn.bind (Rn.ok (Rn.ok q)))
theorem v_ite (h : Rn ((den cl C c).t env s) fun k s1 => Rn (iteM k ((den cl C a).v env) ((den cl C b).v env) s1) P) : Rn ((den cl C (.ite c a b)).v env s) P := Rn.bind h
theorem v_idx (h : Rn ((den cl C a).v env s) fun x s1 => Rn ((den cl C i).v env s1) fun y s2 => Rn (ixA x y s2) P) : Rn ((den cl C (.idx a i)).v env s) P := Rn.bind (h.mono fun _ _ q => Rn.bind q)
theorem v_sl (h : Rn ((den cl C a).v env s) fun x s1 => Rn ((den cl C lo).o env s1) fun l s2 => Rn ((den cl C hi).o env s2) fun h s3 => Rn (slA x l h s3) P) : Rn ((den cl C (.sl a lo hi)).v env s) P :=
  Rn.bind (h.mono fun _ _ q => Rn.bind (q.mono fun _ _ q => Rn.bind q))
theorem v_call {f : Nat} (h : Rn ((den cl C args).l env s) fun vs s1 => Rn (C f vs s1) P) : Rn ((den cl C (.call f args)).v env s) P := Rn.bind h
theorem v_mk {k : Nat} {kw : Bool} (h : Rn ((den cl C args).l env s) fun vs s1 => Rn (mkA cl k vs s1) P) : Rn ((den cl C (.mk k args kw)).v env s) P := Rn.bind h
theorem v_fld {x : Str} (h : Rn ((den cl C a).v env s) fun v s1 => Rn (fldA x v s1) P) : Rn ((den cl C (.fld a x)).v env s) P := Rn.bind h
theorem v_isin {ts : List Ty} {k : Bool} (h : Rn ((den cl C a).v env s) fun v s1 => Rn (isinA cl ts v s1) P) : Rn ((den cl C (.isin a ts k)).v env s) P := Rn.bind h
theorem v_bi {b : Bi} (h : Rn ((den cl C args).l env s) fun vs s1 => Rn (biA b vs s1) P) : Rn ((den cl C (.bi b args)).v env s) P := Rn.bind h
theorem v_meth {m : Me} (h : Rn ((den cl C o).v env s) fun x s1 => Rn (meK m x s1) fun _ s2 => Rn ((den cl C args).l env s2) fun vs s3 => Rn (meA m x vs s3) P) : Rn ((den cl C (.meth m o args)).v env s) P :=
  Rn.bind (h.mono fun _ _ q => Rn.bind (q.mono fun _ _ q => Rn.bind q))
theorem v_lc {t : List Nat} (h : Rn ((den cl C it).i env s) fun ai s1 => Rn (lcA (den cl C el).v t (den cl C c).t env ai s1) P) : Rn ((den cl C (.lc el t it c)).v env s) P := Rn.bind h
end
section
variable {P : List AV → St → Prop} {a r : E}
theorem l_nil (h : P [] s) : Rn ((den cl C .nil).l env s) P := Rn.ok h
theorem l_cons (h : Rn ((den cl C a).v env s) fun x s1 => Rn ((den cl C r).l env s1) fun xs s2 => P (x :: xs) s2) : Rn ((den cl C (.cons a r)).l env s) P := Rn.bind (h.mono fun _ _ q => Rn.bind (q.mono fun _ _ q => Rn.ok q))
end
section
variable {P : Option Int → St → Prop} {a r : E}
theorem o_nil (h : P none s) : Rn ((den cl C .nil).o env s) P := Rn.ok h
theorem o_cons (h : Rn ((den cl C a).v env s) fun x s1 => ∃ i, x = .int i ∧ P (some i) s1) : Rn ((den cl C (.cons a r)).o env s) P := Rn.bind (h.mono fun _ _ ⟨i, e, q⟩ => by subst e; exact Rn.ok q)
end
section
variable {P : Bool → St → Prop} {a b : E}
/-- a test by a value -/
theorem t_val {m : E} (hm : ∀ env, (den cl C m).t env = tru ((den cl C m).v env)) (h : Rn ((den cl C m).v env s) fun x s1 => Rn (truA x s1) P) : Rn ((den cl C m).t env s) P := by
  rw [hm]
  exact Rn.bind h
theorem t_and (h : Rn ((den cl C a).t env s) fun k s1 => Rn (iteM k ((den cl C b).t env) (.pure false) s1) P) : Rn ((den cl C (.and a b)).t env s) P := Rn.bind h
theorem t_or (h : Rn ((den cl C a).t env s) fun k s1 => Rn (iteM k (.pure true) ((den cl C b).t env) s1) P) : Rn ((den cl C (.or a b)).t env s) P := Rn.bind h
theorem t_not (h : Rn ((den cl C a).t env s) fun k s1 => P (!k) s1) : Rn ((den cl C (.not a)).t env s) P := Rn.bind (h.mono fun _ _ q => Rn.ok q)
theorem t_nil (h : P true s) : Rn ((den cl C .nil).t env s) P := Rn.ok h
theorem t_cmp {op : COp} (h : Rn ((den cl C a).v env s) fun x s1 => Rn ((den cl C b).v env s1) fun y s2 => Rn (opC op x y s2) P) : Rn ((den cl C (.cmp op a b)).t env s) P :=
  t_val (fun _ => rfl) (v_cmp (h.mono fun _ _ q => q.mono fun _ _ q => q.mono fun _ _ q => Rn.ok q))
end
section
variable {P : AI → St → Prop} {a : E}
theorem i_val {m : E} (hm : ∀ env, (den cl C m).i env = .bind ((den cl C m).v env) iterV) (h : Rn ((den cl C m).v env s) fun x s1 => Rn (iterV x s1) P) : Rn ((den cl C m).i env s) P := by
  rw [hm]
  exact Rn.bind h
theorem i_rng (h : Rn ((den cl C a).v env s) fun x s1 => ∃ j : Int, x = .int j ∧ (-(2 ^ 62) ≤ j ∧ j < 2 ^ 62) ∧ P (.rng 0 j.toNat) s1) : Rn ((den cl C (.rng a)).i env s) P :=
  Rn.bind (h.mono fun _ _ ⟨j, e, ⟨h1, h2⟩, q⟩ => by
    subst e
    exact Rn.guard (by rw [decide_eq_true h1, decide_eq_true h2]; rfl) (Rn.ok q))
end
section
variable {P : Fl → St → Prop} {t : List Nat} {e o i c it : E} {r a b : S}
theorem s_nil (h : P (.nx env) s) : Rn (exec cl C .nil env s) P := Rn.ok h
theorem s_asg (h : Rn ((den cl C e).v env s) fun v s1 => ∃ env', putT t v env = some env' ∧ Rn (exec cl C r env' s1) P) : Rn (exec cl C (.asg t e r) env s) P :=
  Rn.bind (h.mono fun v s1 ⟨env', q1, q2⟩ => by
    show Rn ((match putT t v env with
      | some env' => exec cl C r env'
      | none => .bad) s1) P
    rw [q1]
    exact q2)
theorem s_asg1 {j : Nat} (h : Rn ((den cl C e).v env s) fun v s1 => Rn (exec cl C r (env.set j (some v)) s1) P) : Rn (exec cl C (.asg [j] e r) env s) P := s_asg (h.mono fun v s1 q => ⟨_, rfl, q⟩)
theorem s_par (h : Rn ((den cl C e).l env s) fun vs s1 => ∃ env', putP t vs env = some env' ∧ Rn (exec cl C r env' s1) P) : Rn (exec cl C (.par t e r) env s) P :=
  Rn.bind (h.mono fun v s1 ⟨env', q1, q2⟩ => by
    show Rn ((match putP t v env with
      | some env' => exec cl C r env'
      | none => .bad) s1) P
    rw [q1]
    exact q2)
theorem s_sub (h : Rn ((den cl C e).v env s) fun v s1 => Rn ((den cl C o).v env s1) fun x s2 => Rn ((den cl C i).v env s2) fun k s3 => Rn (setA x k v s3) fun _ s4 => Rn (exec cl C r env s4) P) : Rn (exec cl C (.sub o i e r) env s) P :=
  Rn.bind (h.mono fun _ _ q => Rn.bind (q.mono fun _ _ q => Rn.bind (q.mono fun _ _ q => Rn.bind q)))
theorem s_exp (h : Rn ((den cl C e).v env s) fun _ s1 => Rn (exec cl C r env s1) P) : Rn (exec cl C (.exp e r) env s) P := Rn.bind h
theorem s_ite (h : Rn ((den cl C c).t env s) fun k s1 => Rn (iteM k (exec cl C a env) (exec cl C b env) s1) fun f s2 => Rn (thenL f (exec cl C r) s2) P) : Rn (exec cl C (.ite c a b r) env s) P := Rn.bind (h.mono fun _ _ q => Rn.bind q)
theorem s_for (h : Rn ((den cl C it).i env s) fun ai s1 => Rn (forA (fun x e => match putT t x e with
      | some e' => exec cl C b e'
      | none => .bad) ai env s1) fun f s2 => Rn (thenL f (exec cl C r) s2) P) : Rn (exec cl C (.for_ t it b r) env s) P := Rn.bind (h.mono fun _ _ q => Rn.bind q)
theorem s_ret (h : Rn ((den cl C e).v env s) fun v s1 => P (.rt v) s1) : Rn (exec cl C (.ret e) env s) P := Rn.bind (h.mono fun _ _ q => Rn.ok q)
theorem s_pas (h : Rn (exec cl C r env s) P) : Rn (exec cl C (.pas r) env s) P := h
end
/-- a call -/
theorem r_call {ds : List DI} {n f : Nat} {d : DI} {vs : List AV} {P : AV → St → Prop} (hd : ds[f]? = some d) (hl : vs.length = d.np) (h : Rn (exec cl (callN cl ds n) d.body (d.env vs) s) fun fl s1 => Rn (endF fl s1) P) : Rn (callN cl ds (n + 1) f vs s) P := by
  have e : callN cl ds (n + 1) f vs s = M.guard (decide (vs.length = d.np)) (.bind (exec cl (callN cl ds n) d.body (d.env vs)) endF) s := by
    show (match ds[f]? with
      | some d => M.guard (decide (vs.length = d.np)) (M.bind (exec cl (callN cl ds n) d.body (d.env vs)) endF)
      | none => M.bad) s = _
    rw [hd]
  rw [e]
  exact Rn.guard (decide_eq_true hl) (Rn.bind h)
end

/-! ### the store -/
def Wf (s : St) : Prop := ∀ a, s.n ≤ a → s.g a = none
/-- old objects stay, but for those in X -/
structure Ext (X : Nat → Prop) (s s' : St) : Prop where
  le : s.n ≤ s'.n
  keep : ∀ a, a < s.n → ¬ X a → s'.g a = s.g a
  wf : Wf s'
section
variable {X Y : Nat → Prop} {s s' s'' : St}
theorem Ext.refl (h : Wf s) : Ext X s s := ⟨Nat.le_refl _, fun _ _ _ => rfl, h⟩
theorem Ext.trans (a : Ext X s s') (b : Ext X s' s'') : Ext X s s'' := ⟨Nat.le_trans a.le b.le, fun x h n => (b.keep x (Nat.lt_of_lt_of_le h a.le) n).trans (a.keep x h n), b.wf⟩
theorem Ext.imp (a : Ext X s s') (h : ∀ a, X a → Y a) : Ext Y s s' := ⟨a.le, fun x l n => a.keep x l fun z => n (h x z), a.wf⟩
theorem Wf.lt {o : AO} {a : Nat} (w : Wf s) (h : s.g a = some o) : a < s.n := by
  by_cases z : a < s.n
  · exact z
  · rw [w a (by omega)] at h; cases h
theorem push_new {o : AO} : (s.push o).g s.n = some o := if_pos rfl
theorem push_old {o : AO} {a : Nat} (h : a < s.n) : (s.push o).g a = s.g a := if_neg (by omega)
theorem push_n {o : AO} : (s.push o).n = s.n + 1 := rfl
theorem Wf.push {o : AO} (w : Wf s) : Wf (s.push o) := fun a h => by
  have h : s.n + 1 ≤ a := h
  show (if a = s.n then some o else s.g a) = none
  rw [if_neg (by omega)]
  exact w a (by omega)
theorem Ext.push {o : AO} (w : Wf s) : Ext X s (s.push o) := ⟨Nat.le_succ _, fun _ h _ => push_old h, w.push⟩
theorem set_same {o : AO} {a : Nat} : (s.set a o).g a = some o := if_pos rfl
theorem set_other {o : AO} {a b : Nat} (h : b ≠ a) : (s.set a o).g b = s.g b := if_neg h
theorem Wf.set {o : AO} {a : Nat} (w : Wf s) (h : a < s.n) : Wf (s.set a o) := fun b hb => by
  have hb : s.n ≤ b := hb
  rw [set_other (by omega)]
  exact w b hb
theorem Ext.set {o : AO} {a : Nat} (w : Wf s) (h : a < s.n) (hx : X a) : Ext X s (s.set a o) := ⟨Nat.le_refl _, fun b _ n => set_other fun e => n (e ▸ hx), w.set h⟩
theorem Ext.get {o : AO} {a : Nat} (e : Ext X s s') (w : Wf s) (h : s.g a = some o) (n : ¬ X a) : s'.g a = some o := (e.keep a (w.lt h) n).trans h
end

/-! ### operations -/
section
variable {s : St} {P : AV → St → Prop}
theorem in_rng {i : Int} (h1 : -(2 ^ 64) < i) (h2 : i < 2 ^ 64) : inRange i = true := by
  unfold inRange
  rw [decide_eq_true h1, decide_eq_true h2]
  rfl
theorem o_add {i j : Int} (h : P (.int (i + j)) s) : Rn (opB .add (.int i) (.int j) s) P := Rn.ok h
theorem o_sub {i j : Int} (h : P (.int (i - j)) s) : Rn (opB .sub (.int i) (.int j) s) P := Rn.ok h
theorem o_mul {i j : Int} (g : inRange i = true ∨ inRange j = true) (h : P (.int (i * j)) s) : Rn (opB .mul (.int i) (.int j) s) P :=
  Rn.guard (by rcases g with g | g <;> rw [g] <;> simp) (Rn.ok h)
theorem o_mod {i j : Int} (g : j ≠ 0) (h : P (.int (i.fmod j)) s) : Rn (opB .mod (.int i) (.int j) s) P := Rn.guard (decide_eq_true g) (Rn.ok h)
theorem o_fdiv {i j : Int} (g : j ≠ 0) (g2 : j.natAbs < 1073741824) (h : P (.int (i.fdiv j)) s) : Rn (opB .fdiv (.int i) (.int j) s) P :=
  Rn.guard (by rw [decide_eq_true g, decide_eq_true g2]; rfl) (Rn.ok h)
theorem o_cat {a b : Nat} {x y : List AV} (ea : s.g a = some (.lst x)) (eb : s.g b = some (.lst y)) (hl : x.length + y.length ≤ line) (h : P (.ref s.n) (s.push (.lst (x ++ y)))) : Rn (opB .add (.ref a) (.ref b) s) P := by
  refine Rn.of (v := .ref s.n) (s' := s.push (.lst (x ++ y))) ?_ h
  change (match s.g a, s.g b with
    | some (.lst x), some (.lst y) => M.guard (decide (x.length + y.length ≤ line)) (M.new (.lst (x ++ y))) s
    | _, _ => .bad) = _
  rw [ea, eb]
  show M.guard (decide (x.length + y.length ≤ line)) (M.new (.lst (x ++ y))) s = _
  rw [decide_eq_true hl]
  rfl
theorem fmod_rng {i j : Int} (h : 0 < j) : 0 ≤ i.fmod j ∧ i.fmod j < j := ⟨Int.fmod_nonneg_of_pos i h, Int.fmod_lt_of_pos i h⟩
theorem it_t {α : Type} {a b : M α} {P : α → St → Prop} (h : Rn (a s) P) : Rn (iteM true a b s) P := h
theorem it_f {α : Type} {a b : M α} {P : α → St → Prop} (h : Rn (b s) P) : Rn (iteM false a b s) P := h
theorem th_rt {v : AV} {k : Env → M Fl} {P : Fl → St → Prop} (h : P (.rt v) s) : Rn (thenL (.rt v) k s) P := Rn.ok h
theorem th_nx {env : Env} {k : Env → M Fl} {P : Fl → St → Prop} (h : Rn (k env s) P) : Rn (thenL (.nx env) k s) P := h
theorem e_rt {v : AV} (h : P v s) : Rn (endF (.rt v) s) P := Rn.ok h
theorem e_nx {env : Env} (h : P .non s) : Rn (endF (.nx env) s) P := Rn.ok h
theorem b_int {i : Int} (h : P (.int i) s) : Rn (biA .int [.int i] s) P := Rn.ok h
theorem b_max {i j : Int} (h : P (.int (if j > i then j else i)) s) : Rn (biA .max2 [.int i, .int j] s) P := Rn.ok h
theorem b_min {i j : Int} (h : P (.int (if j < i then j else i)) s) : Rn (biA .min2 [.int i, .int j] s) P := Rn.ok h
theorem lstOf_lst {a : Nat} {xs : List AV} (e : s.g a = some (.lst xs)) : lstOf s (.ref a) = some xs := by
  change (match s.g a with
    | some (.lst xs) => some xs
    | some (.flst xs) => some xs
    | _ => none) = _
  rw [e]
theorem lstOf_flst {a : Nat} {xs : List AV} (e : s.g a = some (.flst xs)) : lstOf s (.ref a) = some xs := by
  change (match s.g a with
    | some (.lst xs) => some xs
    | some (.flst xs) => some xs
    | _ => none) = _
  rw [e]
theorem b_len {a : Nat} {xs : List AV} (e : lstOf s (.ref a) = some xs) (h : P (.int xs.length) s) : Rn (biA .len [.ref a] s) P := by
  refine Rn.of (v := .int xs.length) (s' := s) ?_ h
  change (match lstOf s (.ref a) with
    | some xs => Out.ok (AV.int xs.length) s
    | none => .bad) = _
  rw [e]
theorem b_sum {a : Nat} {xs : List AV} {ns : List Int} (e : lstOf s (.ref a) = some xs) (e2 : asInts xs = some ns) (h : P (.int ns.sum) s) : Rn (biA .sum [.ref a] s) P := by
  refine Rn.of (v := .int ns.sum) (s' := s) ?_ h
  change (match (lstOf s (.ref a)).bind asInts with
    | some ns => Out.ok (AV.int ns.sum) s
    | none => .bad) = _
  rw [e, Option.bind_some, e2]
theorem ix_lst {a : Nat} {xs : List AV} {i : Int} {v : AV} (e : s.g a = some (.lst xs)) (e2 : L2.atI xs i = some v) (h : P v s) : Rn (ixA (.ref a) (.int i) s) P := by
  refine Rn.of (v := v) (s' := s) ?_ h
  change (match s.g a with
    | some (.lst xs) => M.opt (L2.atI xs i) s
    | some (.flst xs) => M.opt (L2.atI xs i) s
    | _ => .bad) = _
  rw [e]
  show M.opt (L2.atI xs i) s = _
  rw [e2]
  rfl
theorem set_lst {a : Nat} {xs : List AV} {i : Int} {j : Nat} {v : AV} {P : Unit → St → Prop} (e : s.g a = some (.lst xs)) (e2 : L2.ixN xs.length i = some j) (h : P () (s.set a (.lst (xs.set j v)))) : Rn (setA (.ref a) (.int i) v s) P := by
  refine Rn.of (v := ()) (s' := s.set a (.lst (xs.set j v))) ?_ h
  change (match s.g a with
    | some (.lst xs) => match L2.ixN xs.length i with
      | some j => Out.ok () (s.set a (.lst (xs.set j v)))
      | none => .bad
    | _ => .bad) = _
  rw [e]
  show (match L2.ixN xs.length i with
      | some j => Out.ok () (s.set a (.lst (xs.set j v)))
      | none => .bad) = _
  rw [e2]
/-! ### loops -/
theorem for_rng {body : AV → Env → M Fl} {lo : Int} {k : Nat} {env : Env} {P : Fl → St → Prop} (h : Rn (forL body (.rng lo k) k 0 env s) P) : Rn (forA body (.rng lo k) env s) P := h
theorem forL_end {body : AV → Env → M Fl} {ai : AI} {n i : Nat} {env : Env} {P : Fl → St → Prop} (e : ai.item s i = some none) (h : P (.nx env) s) : Rn (forL body ai n i env s) P := by
  refine Rn.of (v := .nx env) (s' := s) ?_ h
  cases n with
  | zero =>
    change (match ai.item s i with
      | some none => Out.ok (Fl.nx env) s
      | _ => .bad) = _
    rw [e]
  | succ n =>
    change (match ai.item s i with
      | some none => Out.ok (Fl.nx env) s
      | some (some x) => M.bind (body x env) (fun f => match f with
        | .nx e => forL body ai n (i + 1) e
        | .ct e => forL body ai n (i + 1) e
        | .bk e => .pure (.nx e)
        | .rt v => .pure (.rt v)) s
      | none => .bad) = _
    rw [e]
theorem forL_step {body : AV → Env → M Fl} {ai : AI} {n i : Nat} {env : Env} {x : AV} {P : Fl → St → Prop} (e : ai.item s i = some (some x)) (h : Rn (body x env s) fun f s1 => match f with
    | .nx e => Rn (forL body ai n (i + 1) e s1) P
    | .ct e => Rn (forL body ai n (i + 1) e s1) P
    | .bk e => P (.nx e) s1
    | .rt v => P (.rt v) s1) : Rn (forL body ai (n + 1) i env s) P := by
  have z : forL body ai (n + 1) i env s = M.bind (body x env) (fun f => match f with
        | .nx e => forL body ai n (i + 1) e
        | .ct e => forL body ai n (i + 1) e
        | .bk e => .pure (.nx e)
        | .rt v => .pure (.rt v)) s := by
    change (match ai.item s i with
      | some none => Out.ok (Fl.nx env) s
      | some (some x) => M.bind (body x env) (fun f => match f with
        | .nx e => forL body ai n (i + 1) e
        | .ct e => forL body ai n (i + 1) e
        | .bk e => .pure (.nx e)
        | .rt v => .pure (.rt v)) s
      | none => .bad) = _
    rw [e]
  rw [z]
  refine Rn.bind (h.mono fun f s1 q => ?_)
  cases f with
  | nx e => exact q
  | ct e => exact q
  | bk e => exact Rn.ok q
  | rt v => exact Rn.ok q
end

/-! ### comprehensions, loops by an invariant -/
section
variable {s : St}
theorem lcL_inv {el : AV → M (Option AV)} {ai : AI} {xs : List AV} {inv : Nat → List AV → St → Prop} (it : ∀ i vs s, inv i vs s → ai.item s i = some xs[i]?)
    (step : ∀ i x vs s, xs[i]? = some x → inv i vs s → Rn (el x s) fun r s' => inv (i + 1) (vs ++ r.toList) s') :
    ∀ (m i : Nat) (vs : List AV) (s : St) (P : List AV → St → Prop), i + m = xs.length → inv i vs s → (∀ rs s', inv xs.length (vs ++ rs) s' → P rs s') → Rn (lcL el ai m i s) P
  | 0, i, vs, s, P, e, h, hP => by
    have e1 : ai.item s i = some none := by rw [it i vs s h, List.getElem?_eq_none (by omega)]
    refine Rn.of (v := []) (s' := s) ?_ (hP [] s (by rw [List.append_nil, ← e]; exact h))
    change (match ai.item s i with
      | some none => Out.ok [] s
      | _ => .bad) = _
    rw [e1]
  | m + 1, i, vs, s, P, e, h, hP => by
    have hi : i < xs.length := by omega
    have e0 : xs[i]? = some xs[i] := List.getElem?_eq_getElem hi
    have e1 : ai.item s i = some (some xs[i]) := by rw [it i vs s h, e0]
    have z : lcL el ai (m + 1) i s = M.bind (el xs[i]) (fun r => M.bind (lcL el ai m (i + 1)) fun rs => .pure (r.toList ++ rs)) s := by
      change (match ai.item s i with
        | some none => Out.ok [] s
        | some (some x) => M.bind (el x) (fun r => M.bind (lcL el ai m (i + 1)) fun rs => .pure (r.toList ++ rs)) s
        | none => .bad) = _
      rw [e1]
    rw [z]
    refine Rn.bind ((step i _ vs s e0 h).mono fun r s1 q => Rn.bind ?_)
    exact lcL_inv it step m (i + 1) (vs ++ r.toList) s1 _ (by omega) q fun rs s' q' => Rn.ok (hP _ _ (by rw [← List.append_assoc]; exact q'))
theorem lcA_inv {el : Env → M AV} {t : List Nat} {c : Env → M Bool} {env : Env} {ai : AI} {P : AV → St → Prop} (xs : List AV) (inv : Nat → List AV → St → Prop) (hl : ai.len s = some xs.length) (h0 : inv 0 [] s) (it : ∀ i vs s, inv i vs s → ai.item s i = some xs[i]?)
    (step : ∀ i x vs s, xs[i]? = some x → inv i vs s → Rn (lcE el t c env x s) fun r s' => inv (i + 1) (vs ++ r.toList) s')
    (fin : ∀ vs s', inv xs.length vs s' → vs.length ≤ line ∧ P (.ref s'.n) (s'.push (.lst vs))) : Rn (lcA el t c env ai s) P := by
  have z : lcA el t c env ai s = M.bind (lcL (lcE el t c env) ai xs.length 0) (fun vs => .guard (decide (vs.length ≤ line)) (.new (.lst vs))) s := by
    change (match ai.len s with
      | some n => M.bind (lcL (lcE el t c env) ai n 0) (fun vs => .guard (decide (vs.length ≤ line)) (.new (.lst vs))) s
      | none => .bad) = _
    rw [hl]
  rw [z]
  exact Rn.bind (lcL_inv it step xs.length 0 [] s _ (by omega) h0 fun rs s' q => Rn.guard (decide_eq_true (fin rs s' q).1) (Rn.ok (fin rs s' q).2))
theorem rng_item {lo : Int} {m i : Nat} : (AI.rng lo m).item s i = some (((List.range m).map fun j : Nat => AV.int (lo + (j : Int)))[i]?) := by
  show some (if i < m then some (AV.int (lo + i)) else none) = _
  by_cases h : i < m
  · rw [if_pos h, List.getElem?_map, List.getElem?_range h]; rfl
  · rw [if_neg h, List.getElem?_eq_none (by rw [List.length_map, List.length_range]; omega)]
theorem rng_len {lo : Int} {m : Nat} : (AI.rng lo m).len s = some ((List.range m).map fun j : Nat => AV.int (lo + (j : Int))).length := by
  show some m = _
  rw [List.length_map, List.length_range]
theorem lst_item {a i : Nat} {xs : List AV} (e : lstOf s (.ref a) = some xs) : (AI.lst a).item s i = some xs[i]? := by
  show (lstOf s (.ref a)).map (fun xs => xs[i]?) = _
  rw [e]; rfl
theorem lst_len {a : Nat} {xs : List AV} (e : lstOf s (.ref a) = some xs) : (AI.lst a).len s = some xs.length := by
  show (lstOf s (.ref a)).map List.length = _
  rw [e]; rfl
theorem iter_lst {a : Nat} {xs : List AV} {P : AI → St → Prop} (e : lstOf s (.ref a) = some xs) (h : P (.lst a) s) : Rn (iterV (.ref a) s) P := by
  refine Rn.of (v := .lst a) (s' := s) ?_ h
  change (match lstOf s (.ref a) with
    | some _ => Out.ok (AI.lst a) s
    | none => .bad) = _
  rw [e]
theorem lcE_nil {cl : List CI} {C : Calls} {el : Env → M AV} {t : List Nat} {env env2 : Env} {x : AV} {P : Option AV → St → Prop} (e : putT t x (wipeE env t) = some env2) (h : Rn (el env2 s) fun v s1 => P (some v) s1) : Rn (lcE el t (den cl C .nil).t env x s) P := by
  have z : lcE el t (den cl C .nil).t env x s = M.bind (el env2) (fun v => .pure (some v)) s := by
    change (match putT t x (wipeE env t) with
      | some env' => M.bind ((den cl C .nil).t env') fun k => iteM k (.bind (el env') fun v => .pure (some v)) (.pure none)
      | none => .bad) s = _
    rw [e]
    rfl
  rw [z]
  exact Rn.bind (h.mono fun _ _ q => Rn.ok q)
theorem lcE_if {c : Env → M Bool} {el : Env → M AV} {t : List Nat} {env env2 : Env} {x : AV} {P : Option AV → St → Prop} (e : putT t x (wipeE env t) = some env2) (h : Rn (c env2 s) fun k s1 => if k = true then Rn (el env2 s1) fun v s2 => P (some v) s2 else P none s1) : Rn (lcE el t c env x s) P := by
  have z : lcE el t c env x s = M.bind (c env2) (fun k => iteM k (.bind (el env2) fun v => .pure (some v)) (.pure none)) s := by
    change (match putT t x (wipeE env t) with
      | some env' => M.bind (c env') fun k => iteM k (.bind (el env') fun v => .pure (some v)) (.pure none)
      | none => .bad) s = _
    rw [e]
  rw [z]
  refine Rn.bind (h.mono fun k s1 q => ?_)
  cases k with
  | true => rw [if_pos rfl] at q; exact Rn.bind (q.mono fun _ _ q => Rn.ok q)
  | false => rw [if_neg Bool.false_ne_true] at q; exact Rn.ok q
theorem forL_inv {body : AV → Env → M Fl} {ai : AI} {xs : List AV} {inv : Nat → Env → St → Prop} (it : ∀ i env s, inv i env s → ai.item s i = some xs[i]?) (step : ∀ i x env s, xs[i]? = some x → inv i env s → Rn (body x env s) fun f s' => ∃ e, f = .nx e ∧ inv (i + 1) e s') :
    ∀ (m i : Nat) (env : Env) (s : St) (P : Fl → St → Prop), i + m = xs.length → inv i env s → (∀ env s', inv xs.length env s' → P (.nx env) s') → Rn (forL body ai m i env s) P
  | 0, i, env, s, P, e, h, hP => forL_end (by rw [it i env s h, List.getElem?_eq_none (by omega)]) (hP env s (by rw [← e]; exact h))
  | m + 1, i, env, s, P, e, h, hP => by
    have hi : i < xs.length := by omega
    have e0 : xs[i]? = some xs[i] := List.getElem?_eq_getElem hi
    refine forL_step (x := xs[i]) (by rw [it i env s h, e0]) ((step i _ env s e0 h).mono fun f s1 ⟨e1, ef, q⟩ => ?_)
    subst ef
    exact forL_inv it step m (i + 1) e1 s1 P (by omega) q hP
theorem forA_inv {body : AV → Env → M Fl} {ai : AI} {env : Env} {P : Fl → St → Prop} (xs : List AV) (inv : Nat → Env → St → Prop) (hl : ai.len s = some xs.length) (h0 : inv 0 env s) (it : ∀ i env s, inv i env s → ai.item s i = some xs[i]?)
    (step : ∀ i x env s, xs[i]? = some x → inv i env s → Rn (body x env s) fun f s' => ∃ e, f = .nx e ∧ inv (i + 1) e s') (fin : ∀ env s', inv xs.length env s' → P (.nx env) s') : Rn (forA body ai env s) P := by
  have z : forA body ai env s = forL body ai xs.length 0 env s := by
    change (match ai.len s with
      | some n => forL body ai n 0 env s
      | none => .bad) = _
    rw [hl]
  rw [z]
  exact forL_inv it step xs.length 0 env s P (by omega) h0 fin
end
end MP
end
section
set_option Elab.async false
set_option linter.all false
set_option maxRecDepth 100000
set_option maxHeartbeats 0
namespace K01
open MP
def cl : List CI := [
  ⟨"GateError", [0], true, true⟩,
  ⟨"InvalidStreets", [1, 0], true, false⟩,
  ⟨"InvalidGates", [2, 0], true, false⟩,
  ⟨"InvalidQuarter", [3, 0], true, false⟩,
  ⟨"InvalidQuarters", [4, 0], true, false⟩,
  ⟨"InvalidTown", [5, 0], true, false⟩,
  ⟨"InvalidPlace", [6, 0], true, false⟩,
  ⟨"InvalidName", [7, 0], true, false⟩,
  ⟨"InvalidChange", [8, 0], true, false⟩,
  ⟨"InvalidChanges", [9, 0], true, false⟩,
  ⟨"InvalidCount", [10, 0], true, false⟩,
  ⟨"InvalidMeasure", [11, 0], true, false⟩,
  ⟨"InvalidFlow", [12, 0], true, false⟩,
  ⟨"InvalidCut", [13, 0], true, false⟩,
  ⟨"InvalidTable", [14, 0], true, false⟩,
  ⟨"InvalidLot", [15, 0], true, false⟩,
  ⟨"InvalidSupply", [16, 0], true, false⟩,
  ⟨"InvalidPlan", [17, 0], true, false⟩,
  ⟨"InvalidDealing", [18, 0], true, false⟩,
  ⟨"InvalidParting", [19, 0], true, false⟩,
  ⟨"InvalidCity", [20, 0], true, false⟩,
  ⟨"InvalidSpot", [21, 0], true, false⟩,
  ⟨"InvalidPromise", [22, 0], true, false⟩,
  ⟨"InvalidScript", [23, 0], true, false⟩,
  ⟨"InvalidText", [24, 0], true, false⟩,
  ⟨"InvalidLog", [25, 0], true, false⟩,
  ⟨"Unlike", [26, 0], true, false⟩,
  ⟨"Refused", [27, 0], true, false⟩,
  ⟨"NothingToUndo", [28, 0], true, true⟩,
  ⟨"NothingToRedo", [29, 0], true, true⟩]
/-- _law_purse -/
def d0 : DI := ⟨"_law_purse", 2, ["_law_script", "_law_at", "_law_seed"],
  (.asg [2] (.bi .sum (.cons (.sl (.var 0) (.cons (.var 1) .nil) (.cons (.bin .add (.var 1) (.int 1)) .nil)) .nil))
  (.ret (.lst (.cons (.bin .mod (.bi .int (.cons (.bi .max2 (.cons (.bin .sub (.var 2) (.bin .pow (.int 10) (.int 18))) (.cons (.int 0) .nil))) .nil)) (.bin .pow (.bin .pow (.int 10) (.int 60)) (.int 8))) (.cons (.bin .mod (.bi .int (.cons (.var 2) .nil)) (.int 2147483629)) (.cons (.int 0) (.cons (.var 1) .nil)))))))⟩
/-- _law_mixed -/
def d1 : DI := ⟨"_law_mixed", 3, ["_law_seed", "_law_turn", "_law_at", "_law_mixed_here"],
  (.asg [3] (.bin .add (.bin .mul (.var 0) (.int 69069)) (.bin .mul (.bin .mul (.int 104729) (.var 1)) (.var 1)))
  (.asg [3] (.bin .mod (.bi .int (.cons (.bin .add (.bin .add (.var 3) (.bin .mul (.int 7919) (.var 2))) (.var 1)) .nil)) (.int 2147483647))
  (.asg [3] (.bin .mod (.bi .int (.cons (.bin .add (.bin .mul (.var 3) (.var 3)) (.int 40503)) .nil)) (.int 2147483629))
  (.ret (.bin .mod (.bi .int (.cons (.bin .mul (.var 3) (.int 48271)) .nil)) (.int 2147483587))))))⟩
/-- _law_draw -/
def d2 : DI := ⟨"_law_draw", 2, ["_law_purse_here", "_law_many", "_law_found", "_law_piece", "_law_drawn"],
  (.ite (.cmp .gt (.idx (.var 0) (.int 0)) (.int 0))
  (.asg [4] (.bin .mod (.bi .int (.cons (.idx (.var 0) (.int 0)) .nil)) (.var 1))
  (.sub (.var 0) (.int 0) (.bin .fdiv (.idx (.var 0) (.int 0)) (.var 1))
  (.ret (.var 4))))
  .nil
  (.asg [2] (.int 0)
  (.for_ [3] (.rng (.bin .add (.int 1) (.bin .fdiv (.meth .bitlen (.var 1) .nil) (.int 28))))
  (.sub (.var 0) (.int 2) (.bin .add (.idx (.var 0) (.int 2)) (.int 1))
  (.asg [2] (.bin .add (.bin .mul (.var 2) (.int 2147483587)) (.call 1 (.cons (.idx (.var 0) (.int 1)) (.cons (.idx (.var 0) (.int 2)) (.cons (.idx (.var 0) (.int 3)) .nil)))))
  .nil))
  (.ret (.bin .mod (.bi .int (.cons (.var 2) .nil)) (.var 1))))))⟩
/-- _law_purses -/
def d3 : DI := ⟨"_law_purses", 2, ["_law_script", "_law_few", "_law_at"],
  (.ret (.lc (.call 0 (.cons (.var 0) (.cons (.var 2) .nil))) [2] (.rng (.bi .max2 (.cons (.int 1) (.cons (.bi .min2 (.cons (.var 1) (.cons (.bi .len (.cons (.var 0) .nil)) .nil))) .nil)))) .nil))⟩
/-- _law_one_of -/
def d4 : DI := ⟨"_law_one_of", 2, ["_law_purse_here", "_law_some"],
  (.ret (.idx (.var 1) (.call 2 (.cons (.var 0) (.cons (.bi .len (.cons (.var 1) .nil)) .nil)))))⟩
/-- _law_word -/
def d5 : DI := ⟨"_law_word", 1, ["_law_purse_here", "_law_size", "_law_turn"],
  (.asg [1] (.bin .add (.int 1) (.call 2 (.cons (.var 0) (.cons (.ite (.cmp .eq (.call 2 (.cons (.var 0) (.cons (.int 3) .nil))) (.int 0)) (.int 8) (.int 3)) .nil))))
  (.ret (.meth .join (.str (PySem.Str.ofString "")) (.cons (.lc (.idx (.str (PySem.Str.ofString "abcdefghijklmnopqrstuvwxyz")) (.call 2 (.cons (.var 0) (.cons (.int 26) .nil)))) [2] (.rng (.var 1)) .nil) .nil))))⟩
/-- _law_first -/
def d6 : DI := ⟨"_law_first", 1, ["_law_thing", "_law_found"],
  (.asg [1] (.lst (.cons (.mk 1 (.cons (.var 0) .nil) false) (.cons (.mk 2 (.cons (.var 0) .nil) false) (.cons (.mk 3 (.cons (.var 0) .nil) false) (.cons (.mk 4 (.cons (.var 0) .nil) false) .nil)))))
  (.asg [1] (.bin .add (.var 1) (.lst (.cons (.mk 5 (.cons (.var 0) .nil) false) (.cons (.mk 6 (.cons (.var 0) .nil) false) (.cons (.mk 7 (.cons (.var 0) .nil) false) (.cons (.mk 8 (.cons (.var 0) .nil) false) .nil))))))
  (.asg [1] (.bin .add (.var 1) (.lst (.cons (.mk 9 (.cons (.var 0) .nil) false) (.cons (.mk 10 (.cons (.var 0) .nil) false) (.cons (.mk 11 (.cons (.var 0) .nil) false) (.cons (.mk 12 (.cons (.var 0) .nil) false) .nil))))))
  (.asg [1] (.bin .add (.var 1) (.lst (.cons (.mk 13 (.cons (.var 0) .nil) false) (.cons (.mk 14 (.cons (.var 0) .nil) false) (.cons (.mk 15 (.cons (.var 0) .nil) false) (.cons (.mk 16 (.cons (.var 0) .nil) false) .nil))))))
  (.asg [1] (.bin .add (.var 1) (.lst (.cons (.mk 17 (.cons (.var 0) .nil) false) (.cons (.mk 18 (.cons (.var 0) .nil) false) (.cons (.mk 19 (.cons (.var 0) .nil) false) (.cons (.mk 20 (.cons (.var 0) .nil) false) .nil))))))
  (.asg [1] (.bin .add (.var 1) (.lst (.cons (.mk 21 (.cons (.var 0) .nil) false) (.cons (.mk 22 (.cons (.var 0) .nil) false) (.cons (.mk 23 (.cons (.var 0) .nil) false) (.cons (.mk 24 (.cons (.var 0) .nil) false) .nil))))))
  (.asg [1] (.bin .add (.var 1) (.lst (.cons (.mk 25 (.cons (.var 0) .nil) false) (.cons (.mk 26 (.cons (.var 0) .nil) false) (.cons (.mk 27 (.cons (.var 0) .nil) false) .nil)))))
  (.ret (.var 1)))))))))⟩
/-- _law_called -/
def d7 : DI := ⟨"_law_called", 1, ["_law_thing", "_law_found"],
  (.asg [1] (.lst (.cons (.mk 1 (.cons (.var 0) .nil) true) (.cons (.mk 2 (.cons (.var 0) .nil) true) (.cons (.mk 3 (.cons (.var 0) .nil) true) .nil))))
  (.asg [1] (.bin .add (.var 1) (.lst (.cons (.mk 4 (.cons (.var 0) .nil) true) (.cons (.mk 5 (.cons (.var 0) .nil) true) (.cons (.mk 6 (.cons (.var 0) .nil) true) .nil)))))
  (.asg [1] (.bin .add (.var 1) (.lst (.cons (.mk 7 (.cons (.var 0) .nil) true) (.cons (.mk 8 (.cons (.var 0) .nil) true) (.cons (.mk 9 (.cons (.var 0) .nil) true) .nil)))))
  (.asg [1] (.bin .add (.var 1) (.lst (.cons (.mk 10 (.cons (.var 0) .nil) true) (.cons (.mk 11 (.cons (.var 0) .nil) true) (.cons (.mk 12 (.cons (.var 0) .nil) true) .nil)))))
  (.asg [1] (.bin .add (.var 1) (.lst (.cons (.mk 13 (.cons (.var 0) .nil) true) (.cons (.mk 14 (.cons (.var 0) .nil) true) (.cons (.mk 15 (.cons (.var 0) .nil) true) .nil)))))
  (.asg [1] (.bin .add (.var 1) (.lst (.cons (.mk 16 (.cons (.var 0) .nil) true) (.cons (.mk 17 (.cons (.var 0) .nil) true) (.cons (.mk 18 (.cons (.var 0) .nil) true) .nil)))))
  (.asg [1] (.bin .add (.var 1) (.lst (.cons (.mk 19 (.cons (.var 0) .nil) true) (.cons (.mk 20 (.cons (.var 0) .nil) true) (.cons (.mk 21 (.cons (.var 0) .nil) true) .nil)))))
  (.asg [1] (.bin .add (.var 1) (.lst (.cons (.mk 22 (.cons (.var 0) .nil) true) (.cons (.mk 23 (.cons (.var 0) .nil) true) (.cons (.mk 24 (.cons (.var 0) .nil) true) .nil)))))
  (.asg [1] (.bin .add (.var 1) (.lst (.cons (.mk 25 (.cons (.var 0) .nil) true) (.cons (.mk 26 (.cons (.var 0) .nil) true) (.cons (.mk 27 (.cons (.var 0) .nil) true) .nil)))))
  (.ret (.var 1)))))))))))⟩
/-- _law_bare -/
def d8 : DI := ⟨"_law_bare", 0, ["_law_found"],
  (.asg [0] (.lst (.cons (.mk 1 .nil false) (.cons (.mk 2 .nil false) (.cons (.mk 3 .nil false) (.cons (.mk 4 .nil false) (.cons (.mk 5 .nil false) (.cons (.mk 6 .nil false) .nil)))))))
  (.asg [0] (.bin .add (.var 0) (.lst (.cons (.mk 7 .nil false) (.cons (.mk 8 .nil false) (.cons (.mk 9 .nil false) (.cons (.mk 10 .nil false) (.cons (.mk 11 .nil false) .nil)))))))
  (.asg [0] (.bin .add (.var 0) (.lst (.cons (.mk 12 .nil false) (.cons (.mk 13 .nil false) (.cons (.mk 14 .nil false) (.cons (.mk 15 .nil false) (.cons (.mk 16 .nil false) (.cons (.mk 17 .nil false) .nil))))))))
  (.asg [0] (.bin .add (.var 0) (.lst (.cons (.mk 18 .nil false) (.cons (.mk 19 .nil false) (.cons (.mk 20 .nil false) (.cons (.mk 21 .nil false) (.cons (.mk 22 .nil false) .nil)))))))
  (.asg [0] (.bin .add (.var 0) (.lst (.cons (.mk 23 .nil false) (.cons (.mk 24 .nil false) (.cons (.mk 25 .nil false) (.cons (.mk 26 .nil false) (.cons (.mk 27 .nil false) .nil)))))))
  (.ret (.var 0)))))))⟩
/-- _law_code -/
def d9 : DI := ⟨"_law_code", 1, ["_law_error", "_law_found", "_law_at"],
  (.asg [1] (.lst (.cons (.isin (.var 0) [(.cls 1)] false) (.cons (.isin (.var 0) [(.cls 2)] false) .nil)))
  (.asg [1] (.bin .add (.var 1) (.lst (.cons (.isin (.var 0) [(.cls 3)] false) (.cons (.isin (.var 0) [(.cls 4)] false) .nil))))
  (.asg [1] (.bin .add (.var 1) (.lst (.cons (.isin (.var 0) [(.cls 5)] false) (.cons (.isin (.var 0) [(.cls 6)] false) .nil))))
  (.asg [1] (.bin .add (.var 1) (.lst (.cons (.isin (.var 0) [(.cls 7)] false) (.cons (.isin (.var 0) [(.cls 8)] false) .nil))))
  (.asg [1] (.bin .add (.var 1) (.lst (.cons (.isin (.var 0) [(.cls 9)] false) (.cons (.isin (.var 0) [(.cls 10)] false) .nil))))
  (.asg [1] (.bin .add (.var 1) (.lst (.cons (.isin (.var 0) [(.cls 11)] false) (.cons (.isin (.var 0) [(.cls 12)] false) .nil))))
  (.asg [1] (.bin .add (.var 1) (.lst (.cons (.isin (.var 0) [(.cls 13)] false) (.cons (.isin (.var 0) [(.cls 14)] false) .nil))))
  (.asg [1] (.bin .add (.var 1) (.lst (.cons (.isin (.var 0) [(.cls 15)] false) (.cons (.isin (.var 0) [(.cls 16)] false) .nil))))
  (.asg [1] (.bin .add (.var 1) (.lst (.cons (.isin (.var 0) [(.cls 17)] false) (.cons (.isin (.var 0) [(.cls 18)] false) .nil))))
  (.asg [1] (.bin .add (.var 1) (.lst (.cons (.isin (.var 0) [(.cls 19)] false) (.cons (.isin (.var 0) [(.cls 20)] false) .nil))))
  (.asg [1] (.bin .add (.var 1) (.lst (.cons (.isin (.var 0) [(.cls 21)] false) (.cons (.isin (.var 0) [(.cls 22)] false) .nil))))
  (.asg [1] (.bin .add (.var 1) (.lst (.cons (.isin (.var 0) [(.cls 23)] false) (.cons (.isin (.var 0) [(.cls 24)] false) .nil))))
  (.asg [1] (.bin .add (.var 1) (.lst (.cons (.isin (.var 0) [(.cls 25)] false) (.cons (.isin (.var 0) [(.cls 26)] false) (.cons (.isin (.var 0) [(.cls 27)] false) .nil)))))
  (.asg [1] (.bin .add (.var 1) (.lst (.cons (.isin (.var 0) [(.cls 28)] false) (.cons (.isin (.var 0) [(.cls 29)] false) .nil))))
  (.ret (.lc (.var 2) [2] (.rng (.bi .len (.cons (.var 1) .nil))) (.idx (.var 1) (.var 2))))))))))))))))))⟩
/-- _law_is_error -/
def d10 : DI := ⟨"_law_is_error", 1, ["_law_error"],
  (.ret (.and (.isin (.var 0) [(.cls 0)] false) (.isin (.var 0) [.verr] false)))⟩
/-- _law_right -/
def d11 : DI := ⟨"_law_right", 2, ["_law_some", "_law_noted", "_law_error", "_law_at"],
  (.ite (.cmp .ne (.lc (.call 9 (.cons (.var 2) .nil)) [2] (.var 0) .nil) (.lc (.lst (.cons (.var 3) .nil)) [3] (.rng (.int 27)) .nil))
  (.ret (.bl false))
  .nil
  (.ret (.cmp .eq (.lc (.var 2) [2] (.var 0) (.or (.not (.call 10 (.cons (.var 2) .nil))) (.cmp .ne (.bi .repr (.cons (.fld (.var 2) (PySem.Str.ofString "value")) .nil)) (.var 1)))) (.lst .nil))))⟩
/-- law -/
def d12 : DI := ⟨"law", 1, ["_law_script", "_law_purse_here", "_law_rest", "_law_word_here", "_law_plain", "_law_thing", "_law_noted", "_law_some", "_law_called_here", "_law_later", "_law_error"],
  (.for_ [1] (.call 3 (.cons (.var 0) (.cons (.int 3) .nil)))
  (.asg [3] (.call 5 (.cons (.var 1) .nil))
  (.asg [4] (.lst (.cons .non (.cons (.bl true) (.cons (.bl false) (.cons (.int 0) (.cons (.var 3) (.cons (.neg (.idx (.var 1) (.int 1))) (.cons (.tup (.cons (.var 3) (.cons (.str (PySem.Str.ofString "in")) (.cons (.str (PySem.Str.ofString "out")) (.cons (.int 1) (.cons (.int 2) .nil)))))) (.cons (.tup (.cons (.var 3) (.cons (.lst (.cons (.var 3) .nil)) .nil))) (.cons (.dic (.cons (.var 3) (.cons (.lst (.cons (.var 3) .nil)) .nil))) .nil))))))))))
  (.asg [5] (.call 4 (.cons (.var 1) (.cons (.bin .add (.var 4) (.lst (.cons (.lst (.cons (.var 3) .nil)) (.cons (.lst (.cons (.lst (.cons (.var 3) .nil)) (.cons (.dic (.cons (.str (PySem.Str.ofString "out")) (.cons (.var 3) .nil))) .nil))) .nil)))) .nil)))
  (.asg [6] (.bi .repr (.cons (.var 5) .nil))
  (.par [7, 8, 9] (.cons (.call 6 (.cons (.var 5) .nil)) (.cons (.call 7 (.cons (.var 5) .nil)) (.cons (.call 6 (.cons (.tup (.cons (.str (PySem.Str.ofString "later")) (.cons (.var 3) .nil))) .nil)) .nil)))
  (.ite (.or (.not (.call 11 (.cons (.call 8 .nil) (.cons (.str (PySem.Str.ofString "None")) .nil)))) (.not (.call 11 (.cons (.var 9) (.cons (.bi .repr (.cons (.tup (.cons (.str (PySem.Str.ofString "later")) (.cons (.var 3) .nil))) .nil)) .nil)))))
  (.ret (.bl false))
  .nil
  (.ite (.or (.not (.call 11 (.cons (.var 7) (.cons (.var 6) .nil)))) (.not (.call 11 (.cons (.var 8) (.cons (.var 6) .nil)))))
  (.ret (.bl false))
  .nil
  (.ite (.isin (.var 5) [.list] false)
  (.exp (.meth .append (.var 5) (.cons (.str (PySem.Str.ofString "later")) .nil))
  .nil)
  .nil
  (.ite (.isin (.var 5) [.dict] false)
  (.exp (.meth .append (.idx (.var 5) (.var 3)) (.cons (.str (PySem.Str.ofString "later")) .nil))
  (.sub (.var 5) (.str (PySem.Str.ofString "LATER")) (.int 1)
  .nil))
  .nil
  (.ite (.and (.isin (.var 5) [.tuple] false) (.cmp .eq (.bi .len (.cons (.var 5) .nil)) (.int 2)))
  (.exp (.meth .append (.idx (.var 5) (.int 1)) (.cons (.str (PySem.Str.ofString "later")) .nil))
  .nil)
  .nil
  (.ite (.or (.not (.call 11 (.cons (.var 7) (.cons (.bi .repr (.cons (.var 5) .nil)) .nil)))) (.not (.call 11 (.cons (.var 8) (.cons (.bi .repr (.cons (.var 5) .nil)) .nil)))))
  (.ret (.bl false))
  .nil
  .nil)))))))))))
  (.asg [2] (.lst (.cons (.mk 28 .nil false) (.cons (.mk 29 .nil false) .nil)))
  (.ite (.cmp .ne (.lc (.call 9 (.cons (.var 10) .nil)) [10] (.var 2) .nil) (.lst (.cons (.lst (.cons (.int 27) .nil)) (.cons (.lst (.cons (.int 28) .nil)) .nil))))
  (.ret (.bl false))
  .nil
  (.exp (.meth .append (.var 2) (.cons (.mk 0 .nil false) .nil))
  (.ret (.and (.bi .all (.cons (.lc (.call 10 (.cons (.var 10) .nil)) [10] (.var 2) .nil) .nil)) (.cmp .eq (.call 9 (.cons (.idx (.var 2) (.int 2)) .nil)) (.lst .nil))))))))⟩
def ds : List DI := [d0, d1, d2, d3, d4, d5, d6, d7, d8, d9, d10, d11, d12]
end K01
namespace K01
open PySem PySem.Spec PyProof.Rows L2 MP
def top (i : Nat) : Stmt := PySem.Challenge.pw_gatequarters_k01_errors_made.main.body.getD i (.Pass ⟨0, 0, 0, 0⟩)
def dd (x : Str) (i : Nat) : He.DefD := ⟨(x, none), x, x, defArgs (top i), defBody (top i), defScope (top i), [], []⟩
def fn : List He.DefD := [dd "_law_purse" 32, dd "_law_mixed" 33, dd "_law_draw" 34, dd "_law_purses" 35, dd "_law_one_of" 36, dd "_law_word" 37, dd "_law_first" 38, dd "_law_called" 39, dd "_law_bare" 40, dd "_law_code" 41, dd "_law_is_error" 42, dd "_law_right" 43, dd "law" 44]
theorem tab : tabB cl ds fn = true := by kernel_rfl
abbrev R : PySem.W.OpenRow := PySem.W.OpenLaw.row PySem.Challenge.rw_gatequarters_k01_errors_made
abbrev hk : PySem.W.Hook := hookM (PySem.Challenge.rw_gatequarters_k01_errors_made).prog cl 4 fn
def loose : List PySem.Str := (["GateError", "InvalidStreets", "InvalidGates", "InvalidQuarter", "InvalidQuarters", "InvalidTown", "InvalidPlace", "InvalidName", "InvalidChange", "InvalidChanges", "InvalidCount", "InvalidMeasure", "InvalidFlow", "InvalidCut", "InvalidTable", "InvalidLot"] : List PySem.Str) ++ (["InvalidSupply", "InvalidPlan", "InvalidDealing", "InvalidParting", "InvalidCity", "InvalidSpot", "InvalidPromise", "InvalidScript", "InvalidText", "InvalidLog", "Unlike", "Refused", "NothingToUndo", "NothingToRedo", "_law_purse", "_law_mixed"] : List PySem.Str) ++ (["_law_draw", "_law_purses", "_law_one_of", "_law_word", "_law_first", "_law_called", "_law_bare", "_law_code", "_law_is_error", "_law_right"] : List PySem.Str)
def ob (s : PySem.W.SharedT) : AlM := obsMG (PySem.Challenge.rw_gatequarters_k01_errors_made).prog cl 4 fn (HandSHeadRun.getT s)
theorem ob_eq (s : PySem.W.SharedT) : ob s = hk.obs s.abs := obsMG_eq (HandSHeadRun.getT_eq s)
theorem run (w : World) : HandSHeadRun.RunEq R (PySem.W.view R.prog [44]) hk ob 40000 loose w := by
  intro os
  kernel_rfl
end K01
open PySem PySem.W PySem.Calls PyProof.Rows
theorem K01.holds (hM : ∀ ns : List Int, ns.length ≤ 63 → (∀ k ∈ ns, Builtin.Int.intBits k ≤ 1048576) → ∃ st', MP.callN K01.cl K01.ds 8 12 [.ref 0] (MP.st0 ns) = .ok (.bl true) st') : PySem.Challenge.rw_gatequarters_k01_errors_made.Holds := by
  w_on; o_law
  refine HandSHeadRun.head_any (r := OpenLaw.row PySem.Challenge.rw_gatequarters_k01_errors_made) (q := view (OpenLaw.row PySem.Challenge.rw_gatequarters_k01_errors_made).prog [44]) (H := K01.hk) (ob := K01.ob) (M := 40000) (loose := K01.loose) (d := HandSHeadRun.topDef (OpenLaw.row PySem.Challenge.rw_gatequarters_k01_errors_made).prog 44) (kwd := []) K01.ob_eq
    (by kernel_rfl) (fun s => by kernel_rfl) K01.run (by kernel_rfl) (by kernel_rfl) (by kernel_rfl) (by rfl) (by first | assumption | decide +kernel) (by decide +kernel) ⟨rfl, rfl, rfl, rfl, rfl, by decide +kernel⟩ ?hw ?hc
  case hw => w_witness2
  case hc =>
    exact MP.walk_M (l := PySem.Challenge.rw_gatequarters_k01_errors_made) (cl := K01.cl) (ds := K01.ds) (fn := K01.fn) (f := 12) (lvl := 8) (hn := 4) (dl := K01.d12) rfl (by kernel_rfl) ⟨rfl, by decide, by decide⟩ rfl (by kernel_rfl) rfl K01.tab hM
end
section
set_option Elab.async false
set_option linter.all false
set_option maxRecDepth 100000
set_option maxHeartbeats 1000000
/-! K01b: the law's drawing. -/
namespace K01
open MP PySem
local macro_rules | `(tactic| walk_at "mgo") => `(tactic| (repeat (first
  | refine v_bin ?_ | refine v_var rfl ?_ | refine v_int ?_ | refine v_str ?_ | refine v_non ?_ | refine v_bl ?_ | refine o_add ?_ | refine o_sub ?_ | refine o_mul (.inr (by decide)) ?_ | refine o_mul (.inl (by decide)) ?_ | refine o_mod (by decide) ?_ | refine v_bi ?_ | refine l_cons ?_ | refine l_nil ?_ | refine b_int ?_ | refine s_asg1 ?_ | refine s_ret ?_ | refine v_call ?_ | refine v_idx ?_ | refine s_nil ?_)))
theorem mixed_ok (n : Nat) (s : St) (a b c : Int) (hb : inRange b = true) : Rn (callN cl ds (n + 1) 1 [.int a, .int b, .int c] s) fun v s' => s' = s ∧ ∃ r : Int, v = .int r := by
  refine r_call (d := d1) rfl rfl ?_
  walk_at "mgo"
  refine o_mul (.inr hb) ?_
  walk_at "mgo"
  refine o_mul (.inl ?_) ?_
  · obtain ⟨h1, h2⟩ := fmod_rng (i := a * 69069 + 104729 * b * b + 7919 * c + b) (j := 2147483647) (by decide)
    exact in_rng (by omega) (by omega)
  walk_at "mgo"
  exact ⟨rfl, _, rfl⟩

/-- a purse: what is left of a great number, the seed, how many were drawn, the cell's number -/
structure Purse (s : St) (a : Nat) (k : Int) (x1 : Int) : Prop where
  ex : ∃ x0 x2 x3 : Int, s.g a = some (.lst [.int x0, .int x1, .int x2, .int x3]) ∧ 0 ≤ x0 ∧ 0 ≤ x2 ∧ x2 ≤ k
theorem draw_ok (n : Nat) (s : St) (a : Nat) (k x1 m : Int) (w : Wf s) (p : Purse s a k x1) (hk : k < 2 ^ 60) (hm : 0 < m) (hm2 : m < 134217728) :
    Rn (callN cl ds (n + 2) 2 [.ref a, .int m] s) fun v s' => s'.n = s.n ∧ Ext (· = a) s s' ∧ Purse s' a (k + 1) x1 ∧ ∃ r : Int, v = .int r ∧ 0 ≤ r ∧ r < m := by
  obtain ⟨x0, x2, x3, e, h0, h2, h3⟩ := p.ex
  have la := w.lt e
  refine r_call (d := d2) rfl rfl ?_
  refine s_ite (t_cmp ?_)
  walk_at "mgo"
  refine ix_lst e rfl ?_
  walk_at "mgo"
  refine Rn.of (v := decide (0 < x0)) (s' := s) rfl ?_
  by_cases z : 0 < x0
  · rw [decide_eq_true z]
    refine it_t ?_
    walk_at "mgo"
    refine ix_lst e rfl ?_
    walk_at "mgo"
    refine o_mod (by omega) ?_
    refine s_sub ?_
    walk_at "mgo"
    refine ix_lst e rfl ?_
    walk_at "mgo"
    refine o_fdiv (by omega) (by omega) ?_
    walk_at "mgo"
    refine set_lst e rfl ?_
    walk_at "mgo"
    refine th_rt (e_rt ?_)
    exact ⟨rfl, Ext.set w la rfl, ⟨x0.fdiv m, x2, x3, set_same, Int.fdiv_nonneg h0 (by omega), h2, by omega⟩, _, rfl, fmod_rng hm⟩
  · rw [decide_eq_false z]
    refine it_f (s_nil (th_nx ?_))
    walk_at "mgo"
    have hb : Builtin.Int.intBits m ≤ 27 := by
      exact PyProof.Rows.intBits_le (k := 27) (by omega)
    refine s_for (i_rng ?_)
    refine v_bin (v_int (v_bin (v_meth ?_)))
    walk_at "mgo"
    refine Rn.of (v := ()) (s' := s) rfl ?_
    walk_at "mgo"
    have e0 : ((Builtin.Int.intBits m : Nat) : Int).fdiv 28 = 0 := by
      rw [Int.fdiv_eq_ediv_of_nonneg _ (by decide)]
      omega
    rw [e0]
    refine ⟨1 + 0, rfl, by decide, ?_⟩
    refine for_rng (forL_step (x := .int 0) rfl ?_)
    refine s_sub ?_
    walk_at "mgo"
    refine ix_lst e rfl ?_
    walk_at "mgo"
    refine set_lst e rfl ?_
    have e2 : (s.set a (.lst [.int x0, .int x1, .int (x2 + 1), .int x3])).g a = some (.lst [.int x0, .int x1, .int (x2 + 1), .int x3]) := set_same
    walk_at "mgo"
    refine ix_lst e2 rfl ?_
    walk_at "mgo"
    refine ix_lst e2 rfl ?_
    walk_at "mgo"
    refine ix_lst e2 rfl ?_
    walk_at "mgo"
    refine (mixed_ok n _ x1 (x2 + 1) x3 (in_rng (by omega) (by omega))).mono fun v s1 q => ?_
    obtain ⟨rfl, r, rfl⟩ := q
    walk_at "mgo"
    refine forL_end rfl ?_
    walk_at "mgo"
    refine o_mod (by omega) ?_
    refine e_rt ?_
    exact ⟨rfl, Ext.set w la rfl, ⟨x0, x2 + 1, x3, set_same, h0, by omega, by omega⟩, _, rfl, fmod_rng hm⟩
end K01
namespace K01
open MP PySem
/-- small letters -/
def Low (w : Str) : Prop := ∀ c ∈ w.cps.toList, 97 ≤ c ∧ c ≤ 122
theorem low_str (i : Nat) (h : i < 26) : ∃ c, L2.atI (Str.ofString "abcdefghijklmnopqrstuvwxyz").cps.toList (i : Int) = some c ∧ 97 ≤ c ∧ c ≤ 122 := by
  have all : (List.range 26).all (fun i => match L2.atI (Str.ofString "abcdefghijklmnopqrstuvwxyz").cps.toList (i : Int) with
    | some c => decide (97 ≤ c) && decide (c ≤ 122)
    | none => false) = true := by decide +kernel
  have q := List.all_eq_true.mp all i (List.mem_range.mpr h)
  revert q
  cases e : L2.atI (Str.ofString "abcdefghijklmnopqrstuvwxyz").cps.toList (i : Int) with
  | none => intro q; cases q
  | some c =>
    intro q
    rw [Bool.and_eq_true] at q
    exact ⟨c, rfl, of_decide_eq_true q.1, of_decide_eq_true q.2⟩
end K01
end
section
set_option Elab.async false
set_option linter.all false
set_option maxRecDepth 100000
set_option maxHeartbeats 1000000
/-! K01c: a drawn word. -/
namespace K01
open MP PySem
local macro_rules | `(tactic| walk_at "mgo") => `(tactic| (repeat (first
  | refine v_bin ?_ | refine v_var rfl ?_ | refine v_int ?_ | refine v_str ?_ | refine v_non ?_ | refine v_bl ?_ | refine o_add ?_ | refine o_sub ?_ | refine v_bi ?_ | refine l_cons ?_ | refine l_nil ?_ | refine b_int ?_ | refine s_asg1 ?_ | refine s_ret ?_ | refine v_call ?_ | refine v_idx ?_ | refine s_nil ?_)))
theorem low_join : ∀ ws : List Str, (∀ w ∈ ws, Low w ∧ w.length ≤ 1) → Low (Str.join (Str.ofString "") ws) ∧ (Str.join (Str.ofString "") ws).length ≤ ws.length
  | [], _ => ⟨fun c h => by simp [Str.join, Str.empty] at h, Nat.le_refl _⟩
  | [w], h => by
    obtain ⟨h1, h2⟩ := h w (List.mem_cons_self ..)
    exact ⟨h1, h2⟩
  | w :: v :: r, h => by
    obtain ⟨h1, h2⟩ := h w (List.mem_cons_self ..)
    obtain ⟨h3, h4⟩ := low_join (v :: r) fun x hx => h x (List.mem_cons_of_mem _ hx)
    have e : Str.join (Str.ofString "") (w :: v :: r) = ⟨w.cps ++ (Str.ofString "").cps ++ (Str.join (Str.ofString "") (v :: r)).cps⟩ := rfl
    have e0 : (Str.ofString "").cps = #[] := rfl
    rw [e, e0]
    refine ⟨fun c hc => ?_, ?_⟩
    · have hc : c ∈ w.cps.toList ++ (Str.join (Str.ofString "") (v :: r)).cps.toList := by simpa using hc
      rcases List.mem_append.mp hc with hc | hc
      · exact h1 c hc
      · exact h3 c hc
    · show (w.cps ++ #[] ++ (Str.join (Str.ofString "") (v :: r)).cps).size ≤ _
      have a1 : w.cps.size ≤ 1 := h2
      have a2 : (Str.join (Str.ofString "") (v :: r)).cps.size ≤ (v :: r).length := h4
      simp only [Array.size_append, List.length_cons] at a2 ⊢
      simp
      omega
theorem ix_abc {s : St} {i : Int} {P : AV → St → Prop} (h0 : 0 ≤ i) (h1 : i < 26) (h : ∀ w : Str, Low w → w.length = 1 → P (.str w) s) : Rn (ixA (.str (Str.ofString "abcdefghijklmnopqrstuvwxyz")) (.int i) s) P := by
  obtain ⟨c, e, hc⟩ := low_str i.toNat (by omega)
  have ei : ((i.toNat : Nat) : Int) = i := by omega
  rw [ei] at e
  have z : ixA (.str (Str.ofString "abcdefghijklmnopqrstuvwxyz")) (.int i) s = .ok (AV.str ⟨#[c]⟩) s := by
    change M.guard (decide ((Str.ofString "abcdefghijklmnopqrstuvwxyz").length ≤ line)) (M.opt ((L2.atI (Str.ofString "abcdefghijklmnopqrstuvwxyz").cps.toList i).map fun c => AV.str ⟨#[c]⟩)) s = _
    rw [e, show decide ((Str.ofString "abcdefghijklmnopqrstuvwxyz").length ≤ line) = true by decide +kernel]
    rfl
  refine Rn.of z (h ⟨#[c]⟩ (fun d hd => ?_) rfl)
  have hd : d = c := by simpa using hd
  rw [hd]
  exact hc
theorem word_ok (n : Nat) (s : St) (a : Nat) (k x1 : Int) (w : Wf s) (p : Purse s a k x1) (hk : k < 2 ^ 40) :
    Rn (callN cl ds (n + 3) 5 [.ref a] s) fun v s' => Ext (· = a) s s' ∧ Purse s' a (k + 10) x1 ∧ ∃ z : Str, v = .str z ∧ Low z ∧ z.length ≤ 8 := by
  refine r_call (d := d5) rfl rfl ?_
  refine s_asg1 (v_bin (v_int (v_call (l_cons (v_var rfl (l_cons (v_ite (t_cmp (v_call (l_cons (v_var rfl (l_cons (v_int (l_nil ?_))))))))))))))
  refine (draw_ok n s a k x1 3 w p (by omega) (by decide) (by decide)).mono fun v s1 ⟨n1, E1, p1, r, ev, r0, r1⟩ => ?_
  subst ev
  refine v_int ?_
  refine Rn.of (v := scalEq (AV.int r) (AV.int 0)) (s' := s1) rfl ?_
  have size : ∀ m : Int, (m = 8 ∨ m = 3) → ∀ s1, Ext (· = a) s s1 → Purse s1 a (k + 1) x1 → Rn (callN cl ds (n + 2) 2 [.ref a, .int m] s1) fun v s' => ∃ r : Int, v = .int r ∧ 0 ≤ r ∧ r < 8 ∧ Ext (· = a) s s' ∧ Purse s' a (k + 2) x1 := fun m hm s1 E1 p1 => by
    refine (draw_ok n s1 a (k + 1) x1 m E1.wf p1 (by omega) (by rcases hm with rfl | rfl <;> decide) (by rcases hm with rfl | rfl <;> decide)).mono fun v s2 ⟨n2, E2, p2, r, ev, r0, r1⟩ => ?_
    refine ⟨r, ev, r0, by omega, E1.trans E2, ?_⟩
    rw [show k + 2 = k + 1 + 1 by omega]
    exact p2
  have main : ∀ (m : Int), (m = 8 ∨ m = 3) → Rn (callN cl ds (n + 2) 2 [.ref a, .int m] s1) fun v s2 => Rn (opB .add (.int 1) v s2) fun v s3 => Rn (exec cl (callN cl ds (n + 2)) (.ret (.meth .join (.str (PySem.Str.ofString "")) (.cons (.lc (.idx (.str (PySem.Str.ofString "abcdefghijklmnopqrstuvwxyz")) (.call 2 (.cons (.var 0) (.cons (.int 26) .nil)))) [2] (.rng (.var 1)) .nil) .nil))) ((d5.env [.ref a]).set 1 (some v)) s3) fun fl s4 => Rn (endF fl s4) fun v s' => Ext (· = a) s s' ∧ Purse s' a (k + 10) x1 ∧ ∃ z : Str, v = .str z ∧ Low z ∧ z.length ≤ 8 := fun m hm => by
    refine (size m hm s1 E1 p1).mono fun v s2 ⟨r, ev, r0, r1, E2, p2⟩ => ?_
    subst ev
    refine o_add (s_ret (v_meth (v_str ?_)))
    refine Rn.of (v := ()) (s' := s2) rfl ?_
    refine l_cons (v_lc (i_rng (v_var rfl ⟨1 + r, rfl, by omega, ?_⟩)))
    refine lcA_inv ((List.range (1 + r).toNat).map fun j : Nat => AV.int (0 + (j : Int))) (fun i vs s' => Ext (· = a) s s' ∧ Purse s' a (k + 2 + i) x1 ∧ vs.length = i ∧ ∃ zs : List Str, vs = zs.map AV.str ∧ ∀ z ∈ zs, Low z ∧ z.length ≤ 1) rng_len ⟨E2, by simpa using p2, rfl, [], rfl, by simp⟩ (fun i vs s _ => rng_item) (fun i x vs s3 hx ⟨E3, p3, hl, zs, ez, hz⟩ => ?_) (fun vs s4 ⟨E4, p4, hl, zs, ez, hz⟩ => ?_)
    · have hi : i < (1 + r).toNat := by
        have q := (List.getElem?_eq_some_iff.mp hx).1
        rw [List.length_map, List.length_range] at q
        exact q
      refine lcE_nil (env2 := (wipeE ((d5.env [.ref a]).set 1 (some (.int (1 + r)))) [2]).set 2 (some x)) rfl ?_
      refine v_idx (v_str (v_call (l_cons (v_var rfl (l_cons (v_int (l_nil ?_)))))))
      refine (draw_ok n s3 a _ x1 26 E3.wf p3 (by omega) (by decide) (by decide)).mono fun v s4 ⟨n4, E4, p4, r4, ev, q0, q1⟩ => ?_
      subst ev
      refine ix_abc q0 q1 fun z hz1 hz2 => ⟨E3.trans E4, ?_, by simp [hl], zs ++ [z], by simp [ez], fun y hy => ?_⟩
      · have e : k + 2 + ((i + 1 : Nat) : Int) = k + 2 + i + 1 := by omega
        rw [e]
        exact p4
      · rcases List.mem_append.mp hy with hy | hy
        · exact hz y hy
        · have hy : y = z := by simpa using hy
          rw [hy]
          exact ⟨hz1, by omega⟩
    · rw [List.length_map, List.length_range] at hl p4
      have hlen : zs.length ≤ 8 := by
        have q : vs.length = zs.length := by rw [ez, List.length_map]
        omega
      refine ⟨by rw [hl]; show _ ≤ 16777216; omega, l_nil ?_⟩
      have hs : lstOf (s4.push (.lst vs)) (.ref s4.n) = some vs := lstOf_lst push_new
      have ha : asStrs vs = some zs := by
        rw [ez]
        clear ez hz hlen
        induction zs with
        | nil => rfl
        | cons z zs ih => show (asStrs (zs.map AV.str)).map (z :: ·) = _; rw [ih]; rfl
      have hj := low_join zs hz
      refine Rn.of (v := AV.str (Str.join (Str.ofString "") zs)) (s' := s4.push (.lst vs)) ?_ (e_rt ?_)
      · change (match (lstOf (s4.push (.lst vs)) (.ref s4.n)).bind asStrs with
          | some xs => M.guard (decide ((xs.map Str.length).sum + xs.length * (PySem.Str.ofString "").length ≤ line)) (.pure (AV.str (Txt.join (PySem.Str.ofString "") xs))) (s4.push (.lst vs))
          | none => .bad) = _
        rw [hs, Option.bind_some, ha]
        have hsum : (zs.map Str.length).sum ≤ zs.length := by
          clear ez ha hj hlen
          induction zs with
          | nil => exact Nat.le_refl _
          | cons z zs ih =>
            have q := (hz z (List.mem_cons_self ..)).2
            have q2 := ih fun y hy => hz y (List.mem_cons_of_mem _ hy)
            simp only [List.map_cons, List.sum_cons, List.length_cons]
            omega
        have g : (zs.map Str.length).sum + zs.length * (PySem.Str.ofString "").length ≤ line := by
          have e : (PySem.Str.ofString "").length = 0 := rfl
          rw [e]
          show _ ≤ 16777216
          omega
        show M.guard (decide ((zs.map Str.length).sum + zs.length * (PySem.Str.ofString "").length ≤ line)) (.pure (AV.str (Txt.join (PySem.Str.ofString "") zs))) (s4.push (.lst vs)) = _
        rw [decide_eq_true g, show Txt.join (PySem.Str.ofString "") zs = Str.join (Str.ofString "") zs from StrLaws.glued_eq_join _ _]
        rfl
      · refine ⟨E4.trans (Ext.push E4.wf), ?_, _, rfl, hj.1, Nat.le_trans hj.2 hlen⟩
        obtain ⟨x0, x2, x3, e, h0, h2, h3⟩ := p4.ex
        exact ⟨x0, x2, x3, (push_old (E4.wf.lt e)).trans e, h0, h2, by omega⟩
  by_cases z : r = 0
  · have e : scalEq (AV.int r) (AV.int 0) = true := decide_eq_true z
    rw [e]
    exact it_t (v_int (l_nil (main 8 (.inl rfl))))
  · have e : scalEq (AV.int r) (AV.int 0) = false := decide_eq_false z
    rw [e]
    exact it_f (v_int (l_nil (main 3 (.inr rfl))))
end K01
end
section
set_option Elab.async false
set_option linter.all false
set_option maxRecDepth 100000
set_option maxHeartbeats 1000000
/-! K01d: lists of errors made. -/
namespace K01
open MP PySem
local macro_rules | `(tactic| walk_at "mgo") => `(tactic| (repeat (first
  | refine v_bin ?_ | refine v_var rfl ?_ | refine v_int ?_ | refine v_str ?_ | refine v_non ?_ | refine v_bl ?_ | refine o_add ?_ | refine o_sub ?_ | refine v_bi ?_ | refine l_cons ?_ | refine l_nil ?_ | refine b_int ?_ | refine s_asg1 ?_ | refine s_ret ?_ | refine v_call ?_ | refine v_idx ?_ | refine s_nil ?_)))
abbrev Non : Nat → Prop := fun _ => False
/-- refs to errors of these classes with this value -/
def Made (s : St) (v : AV) : List AV → List Nat → Prop
  | [], [] => True
  | e :: es, c :: cs => (∃ a, e = .ref a ∧ s.g a = some (.exc c v)) ∧ Made s v es cs
  | _, _ => False
theorem Made.len {s : St} {v : AV} : ∀ {es : List AV} {cs : List Nat}, Made s v es cs → es.length = cs.length
  | [], [], _ => rfl
  | [], _ :: _, h => h.elim
  | _ :: _, [], h => h.elim
  | e :: es, c :: cs, h => congrArg (· + 1) (Made.len (es := es) (cs := cs) h.2)
theorem Made.app {s : St} {v : AV} : ∀ {es : List AV} {cs : List Nat} {es2 : List AV} {cs2 : List Nat}, Made s v es cs → Made s v es2 cs2 → Made s v (es ++ es2) (cs ++ cs2)
  | [], [], _, _, _, h => h
  | [], _ :: _, _, _, h, _ => h.elim
  | _ :: _, [], _, _, h, _ => h.elim
  | e :: es, c :: cs, _, _, h, h2 => ⟨h.1, Made.app (es := es) (cs := cs) h.2 h2⟩
theorem Made.ext {X : Nat → Prop} {s s' : St} {v : AV} (w : Wf s) (E : Ext X s s') (hx : ∀ a c v, s.g a = some (.exc c v) → ¬ X a) : ∀ {es : List AV} {cs : List Nat}, Made s v es cs → Made s' v es cs
  | [], [], _ => trivial
  | [], _ :: _, h => h.elim
  | _ :: _, [], h => h.elim
  | e :: es, c :: cs, h => by
    obtain ⟨⟨a, ea, ha⟩, h2⟩ := h
    exact ⟨⟨a, ea, E.get w ha (hx _ _ _ ha)⟩, Made.ext w E hx h2⟩
theorem Made.get {s : St} {v : AV} : ∀ {es : List AV} {cs : List Nat} {i : Nat} {x : AV}, Made s v es cs → es[i]? = some x → ∃ a c, x = .ref a ∧ cs[i]? = some c ∧ s.g a = some (.exc c v)
  | [], [], i, x, _, h => by cases h
  | [], _ :: _, _, _, h, _ => h.elim
  | _ :: _, [], _, _, h, _ => h.elim
  | e :: es, c :: cs, 0, x, h, hx => by
    obtain ⟨⟨a, ea, ha⟩, h2⟩ := h
    cases hx
    exact ⟨a, c, ea, rfl, ha⟩
  | e :: es, c :: cs, i + 1, x, h, hx => Made.get (es := es) (cs := cs) (i := i) h.2 hx

def mks (args : E) (kw : Bool) : List Nat → E
  | [] => .nil
  | c :: cs => .cons (.mk c args kw) (mks args kw cs)
def chunks (k : Nat) (args : E) (kw : Bool) : List (List Nat) → S
  | [] => .ret (.var k)
  | c :: cs => .asg [k] (.bin .add (.var k) (.lst (mks args kw c))) (chunks k args kw cs)
/-- what such a list is made of -/
structure MkArgs (C : Calls) (args : E) (v : AV) (A : MP.Env → Prop) (k : Nat) (cs : List Nat) : Prop where
  a : ∃ vs, (∀ env, A env → ∀ s, (den cl C args).l env s = .ok vs s) ∧ ∀ c ∈ cs, ∀ s, mkA cl c vs s = M.new (.exc c v) s
  set : ∀ env x, A env → A (env.set k x)
  in_ : ∀ env, A env → k < env.length
theorem mks_ok {C : Calls} {args : E} {kw : Bool} {v : AV} {env : MP.Env} {vs : List AV} (ha : ∀ s, (den cl C args).l env s = .ok vs s) : ∀ (cs : List Nat) (s : St) (P : List AV → St → Prop), (∀ c ∈ cs, ∀ s, mkA cl c vs s = M.new (.exc c v) s) → Wf s → (∀ es s', Made s' v es cs → Ext Non s s' → P es s') → Rn ((den cl C (mks args kw cs)).l env s) P
  | [], s, P, _, w, h => l_nil (h [] s trivial (Ext.refl w))
  | c :: cs, s, P, hm, w, h => by
    refine l_cons (v_mk (Rn.of (ha s) (Rn.of (hm c (List.mem_cons_self ..) s) ?_)))
    refine mks_ok ha cs _ _ (fun d hd => hm d (List.mem_cons_of_mem _ hd)) w.push fun es s' hes E => ?_
    refine h _ _ ⟨⟨s.n, rfl, ?_⟩, hes⟩ ((Ext.push w).trans E)
    exact E.get w.push push_new (fun z => z)
theorem chunks_ok {lo : Nat} {C : Calls} {args : E} {kw : Bool} {v : AV} {A : MP.Env → Prop} {k : Nat} {all : List Nat} (ar : MkArgs C args v A k all) :
    ∀ (css : List (List Nat)) (env : MP.Env) (s : St) (a : Nat) (es : List AV) (cs : List Nat) (P : Fl → St → Prop), lo ≤ a → lo ≤ s.n → (∀ c ∈ css.flatten, c ∈ all) → A env → env[k]?.join = some (.ref a) → s.g a = some (.lst es) → Made s v es cs → cs.length + css.flatten.length ≤ line → Wf s →
      (∀ b es s', lo ≤ b → s'.g b = some (.lst es) → Made s' v es (cs ++ css.flatten) → Ext Non s s' → P (.rt (.ref b)) s') → Rn (exec cl C (chunks k args kw css) env s) P
  | [], env, s, a, es, cs, P, l1, l2, _, hA, hk, hs, hm, hl, w, h => by
    refine s_ret (v_var hk ?_)
    exact h a es s l1 hs (by rw [List.flatten_nil, List.append_nil]; exact hm) (Ext.refl w)
  | c :: css, env, s, a, es, cs, P, l1, l2, hin, hA, hk, hs, hm, hl, w, h => by
    obtain ⟨vs, ha, hmk⟩ := ar.a
    refine s_asg1 (v_bin (v_var hk (v_lst ?_)))
    have hlen : cs.length + (c.length + css.flatten.length) ≤ line := by
      rw [List.flatten_cons, List.length_append] at hl
      exact hl
    refine mks_ok (ha env hA) c s _ (fun d hd => hmk d (hin d (by rw [List.flatten_cons]; exact List.mem_append_left _ hd))) w fun es2 s2 hm2 E2 => ⟨by rw [hm2.len]; omega, ?_⟩
    have E3 : Ext Non s (s2.push (.lst es2)) := E2.trans (Ext.push E2.wf)
    have e1 : (s2.push (.lst es2)).g a = some (.lst es) := E3.get w hs (fun z => z)
    refine o_cat e1 push_new (by rw [hm.len, hm2.len]; omega) ?_
    have E4 := E3.trans (X := Non) (Ext.push (o := .lst (es ++ es2)) E3.wf)
    have m1 := hm.ext w E4 (fun _ _ _ _ z => z)
    have m2 := hm2.ext E2.wf ((Ext.push (X := Non) (o := .lst es2) E2.wf).trans (Ext.push (o := .lst (es ++ es2)) E3.wf)) (fun _ _ _ _ z => z)
    refine chunks_ok ar css _ _ _ (es ++ es2) (cs ++ c) P (Nat.le_trans l2 E3.le) (Nat.le_trans l2 E4.le) (fun d hd => hin d (by rw [List.flatten_cons]; exact List.mem_append_right _ hd)) (ar.set _ _ hA) ?_ push_new (m1.app m2) (by rw [List.length_append]; omega) E4.wf fun b es' s' l3 hb hm' E' => h b es' s' l3 hb ?_ (E4.trans E')
    · rw [List.getElem?_set_self (ar.in_ env hA)]
      rfl
    · rw [List.flatten_cons, ← List.append_assoc]
      exact hm'
theorem list_ok {C : Calls} {args : E} {kw : Bool} {v : AV} {A : MP.Env → Prop} {k : Nat} {c0 : List Nat} {css : List (List Nat)} {env : MP.Env} {s : St} {P : Fl → St → Prop} (ar : MkArgs C args v A k (c0 ++ css.flatten)) (hA : A env) (hl : c0.length + css.flatten.length ≤ line) (w : Wf s)
    (h : ∀ b es s', s.n ≤ b → s'.g b = some (.lst es) → Made s' v es (c0 ++ css.flatten) → Ext Non s s' → P (.rt (.ref b)) s') : Rn (exec cl C (.asg [k] (.lst (mks args kw c0)) (chunks k args kw css)) env s) P := by
  obtain ⟨vs, ha, hmk⟩ := ar.a
  refine s_asg1 (v_lst ?_)
  refine mks_ok (ha env hA) c0 s _ (fun d hd => hmk d (List.mem_append_left _ hd)) w fun es2 s2 hm2 E2 => ⟨by rw [hm2.len]; omega, ?_⟩
  refine chunks_ok (lo := s.n) ar css _ _ _ es2 c0 P E2.le (Nat.le_trans E2.le (Nat.le_succ _)) (fun d hd => List.mem_append_right _ hd) (ar.set _ _ hA) ?_ push_new (hm2.ext E2.wf (Ext.push (X := Non) E2.wf) (fun _ _ _ _ z => z)) hl E2.wf.push fun b es' s' l3 hb hm' E' => h b es' s' l3 hb hm' ((E2.trans (Ext.push E2.wf)).trans E')
  rw [List.getElem?_set_self (ar.in_ env hA)]
  rfl
def all27 : List Nat := (List.range 27).map (· + 1)
theorem mk1 {v : AV} : ∀ c ∈ all27, ∀ s, mkA cl c [v] s = M.new (.exc c v) s := by
  intro c hc s
  have hb : ∀ c ∈ all27, (cl[c]?.map fun i => (i.exc, i.bare)) = some (true, false) := by decide +kernel
  have q := hb c hc
  unfold mkA
  revert q
  cases e : cl[c]? with
  | none => intro q; cases q
  | some i =>
    obtain ⟨nm, sp, ex, ba⟩ := i
    intro q
    have q : some (ex, ba) = some (true, false) := q
    cases q
    rfl
theorem mk0 : ∀ c ∈ all27, ∀ s, mkA cl c [] s = M.new (.exc c .non) s := by
  intro c hc s
  have hb : ∀ c ∈ all27, (cl[c]?.map fun i => (i.exc, i.bare)) = some (true, false) := by decide +kernel
  have q := hb c hc
  unfold mkA
  revert q
  cases e : cl[c]? with
  | none => intro q; cases q
  | some i =>
    obtain ⟨nm, sp, ex, ba⟩ := i
    intro q
    have q : some (ex, ba) = some (true, false) := q
    cases q
    rfl
theorem first_ok (n : Nat) (s : St) (v : AV) (w : Wf s) : Rn (callN cl ds (n + 1) 6 [v] s) fun r s' => ∃ b es, r = .ref b ∧ s.n ≤ b ∧ s'.g b = some (.lst es) ∧ Made s' v es all27 ∧ Ext Non s s' := by
  refine r_call (d := d6) rfl rfl ?_
  refine list_ok (k := 1) (args := .cons (.var 0) .nil) (kw := false) (v := v) (A := fun env => ∃ x, env = [some v, x]) (c0 := [1, 2, 3, 4]) (css := [[5, 6, 7, 8], [9, 10, 11, 12], [13, 14, 15, 16], [17, 18, 19, 20], [21, 22, 23, 24], [25, 26, 27]])
    ⟨⟨[v], ?_, fun c hc s => mk1 c hc s⟩, ?_, ?_⟩ ⟨_, rfl⟩ (by decide) w fun b es s' lb hb hm E => e_rt ⟨b, es, rfl, lb, hb, hm, E⟩
  · rintro env ⟨x, rfl⟩ s; rfl
  · rintro env y ⟨x, rfl⟩; exact ⟨y, rfl⟩
  · rintro env ⟨x, rfl⟩; simp
theorem called_ok (n : Nat) (s : St) (v : AV) (w : Wf s) : Rn (callN cl ds (n + 1) 7 [v] s) fun r s' => ∃ b es, r = .ref b ∧ s.n ≤ b ∧ s'.g b = some (.lst es) ∧ Made s' v es all27 ∧ Ext Non s s' := by
  refine r_call (d := d7) rfl rfl ?_
  refine list_ok (k := 1) (args := .cons (.var 0) .nil) (kw := true) (v := v) (A := fun env => ∃ x, env = [some v, x]) (c0 := [1, 2, 3]) (css := [[4, 5, 6], [7, 8, 9], [10, 11, 12], [13, 14, 15], [16, 17, 18], [19, 20, 21], [22, 23, 24], [25, 26, 27]])
    ⟨⟨[v], ?_, fun c hc s => mk1 c hc s⟩, ?_, ?_⟩ ⟨_, rfl⟩ (by decide) w fun b es s' lb hb hm E => e_rt ⟨b, es, rfl, lb, hb, hm, E⟩
  · rintro env ⟨x, rfl⟩ s; rfl
  · rintro env y ⟨x, rfl⟩; exact ⟨y, rfl⟩
  · rintro env ⟨x, rfl⟩; simp
theorem bare_ok (n : Nat) (s : St) (w : Wf s) : Rn (callN cl ds (n + 1) 8 [] s) fun r s' => ∃ b es, r = .ref b ∧ s.n ≤ b ∧ s'.g b = some (.lst es) ∧ Made s' .non es all27 ∧ Ext Non s s' := by
  refine r_call (d := d8) rfl rfl ?_
  refine list_ok (k := 0) (args := .nil) (kw := false) (v := .non) (A := fun env => ∃ x, env = [x]) (c0 := [1, 2, 3, 4, 5, 6]) (css := [[7, 8, 9, 10, 11], [12, 13, 14, 15, 16, 17], [18, 19, 20, 21, 22], [23, 24, 25, 26, 27]])
    ⟨⟨[], ?_, fun c hc s => mk0 c hc s⟩, ?_, ?_⟩ ⟨_, rfl⟩ (by decide) w fun b es s' lb hb hm E => e_rt ⟨b, es, rfl, lb, hb, hm, E⟩
  · rintro env ⟨x, rfl⟩ s; rfl
  · rintro env y ⟨x, rfl⟩; exact ⟨y, rfl⟩
  · rintro env ⟨x, rfl⟩; simp
end K01
end
section
set_option Elab.async false
set_option linter.all false
set_option maxRecDepth 100000
set_option maxHeartbeats 1000000
/-! K01e: an error's code. -/
namespace K01
open MP PySem
def B (e c : Nat) : Bool := [Ty.cls c].any (isT cl (.cls e))
def isins : List Nat → E
  | [] => .nil
  | c :: cs => .cons (.isin (.var 0) [.cls c] false) (isins cs)
theorem isins_ok {C : Calls} {env : MP.Env} {s : St} {a e : Nat} (h0 : env[0]?.join = some (.ref a)) (ht : tagA s (.ref a) = some (.cls e)) : ∀ (cs : List Nat) (P : List AV → St → Prop), P (cs.map fun c => .bl (B e c)) s → Rn ((den cl C (isins cs)).l env s) P
  | [], P, h => l_nil h
  | c :: cs, P, h => by
    refine l_cons (v_isin (v_var h0 (Rn.of (v := .bl (B e c)) (s' := s) ?_ (isins_ok h0 ht cs _ h))))
    change (match tagA s (.ref a) with
      | some g => Out.ok (AV.bl ([Ty.cls c].any (isT cl g))) s
      | none => .bad) = _
    rw [ht]
    rfl
def codeS (fin : S) : List (List Nat) → S
  | [] => fin
  | c :: cs => .asg [1] (.bin .add (.var 1) (.lst (isins c))) (codeS fin cs)
theorem tag_ext {X : Nat → Prop} {s s' : St} {a e : Nat} (w : Wf s) (E : Ext X s s') (hx : ¬ X a) (h : tagA s (.ref a) = some (.cls e)) : tagA s' (.ref a) = some (.cls e) := by
  have la : a < s.n := by
    by_cases z : a < s.n
    · exact z
    · have q := w a (by omega)
      change (match s.g a with
        | some (.lst _) => some Tag.lst
        | some (.flst _) => some Tag.lst
        | some (.dic _) => some Tag.dic
        | some (.exc c _) => some (Tag.cls c)
        | some (.exn c) => some (Tag.cls c)
        | some (.ins c _) => some (Tag.cls c)
        | none => none) = _ at h
      rw [q] at h
      cases h
  have q := E.keep a la hx
  change (match s'.g a with
        | some (.lst _) => some Tag.lst
        | some (.flst _) => some Tag.lst
        | some (.dic _) => some Tag.dic
        | some (.exc c _) => some (Tag.cls c)
        | some (.exn c) => some (Tag.cls c)
        | some (.ins c _) => some (Tag.cls c)
        | none => none) = _
  rw [q]
  exact h
theorem codeS_ok {C : Calls} {fin : S} {a e : Nat} : ∀ (css : List (List Nat)) (env : MP.Env) (s : St) (b : Nat) (cs : List Nat) (P : Fl → St → Prop), (∃ y, env = [some (.ref a), some (.ref b), y]) → tagA s (.ref a) = some (.cls e) → s.g b = some (.lst (cs.map fun c => .bl (B e c))) → cs.length + css.flatten.length ≤ line → Wf s →
      (∀ b s' env, (∃ y, env = [some (.ref a), some (.ref b), y]) → s'.g b = some (.lst ((cs ++ css.flatten).map fun c => .bl (B e c))) → Ext Non s s' → Rn (exec cl C fin env s') P) → Rn (exec cl C (codeS fin css) env s) P
  | [], env, s, b, cs, P, henv, ht, hs, hl, w, h => h b s env henv (by rw [List.flatten_nil, List.append_nil]; exact hs) (Ext.refl w)
  | c :: css, env, s, b, cs, P, ⟨y, henv⟩, ht, hs, hl, w, h => by
    have hlen : cs.length + (c.length + css.flatten.length) ≤ line := by
      rw [List.flatten_cons, List.length_append] at hl
      exact hl
    subst henv
    refine s_asg1 (v_bin (v_var rfl (v_lst (isins_ok rfl ht c _ ⟨by rw [List.length_map]; omega, ?_⟩))))
    have E1 : Ext Non s (s.push (.lst (c.map fun c => .bl (B e c)))) := Ext.push w
    refine o_cat (E1.get w hs (fun z => z)) push_new (by rw [List.length_map, List.length_map]; omega) ?_
    have E2 := E1.trans (Ext.push (X := Non) (o := .lst ((cs.map fun c => .bl (B e c)) ++ c.map fun c => .bl (B e c))) E1.wf)
    refine codeS_ok css _ _ _ (cs ++ c) P ⟨y, rfl⟩ (tag_ext w E2 (fun z => z) ht) (by rw [List.map_append]; exact push_new) (by rw [List.length_append]; omega) E2.wf fun b s' env henv hb E' => h b s' env henv ?_ (E2.trans E')
    rw [List.flatten_cons, ← List.append_assoc]
    exact hb
def codeOf (e : Nat) : List Nat := (List.range 29).filter fun j => B e (j + 1)
def codeL : E := .lc (.var 2) [2] (.rng (.bi .len (.cons (.var 1) .nil))) (.idx (.var 1) (.var 2))
theorem code_ok (n : Nat) (s : St) (a e : Nat) (w : Wf s) (ht : tagA s (.ref a) = some (.cls e)) : Rn (callN cl ds (n + 1) 9 [.ref a] s) fun r s' => ∃ b, r = .ref b ∧ s'.g b = some (.lst ((codeOf e).map fun j : Nat => .int j)) ∧ Ext Non s s' := by
  refine r_call (d := d9) rfl rfl ?_
  change Rn (exec cl (callN cl ds n) (.asg [1] (.lst (isins [1, 2])) (codeS (.ret codeL) [[3, 4], [5, 6], [7, 8], [9, 10], [11, 12], [13, 14], [15, 16], [17, 18], [19, 20], [21, 22], [23, 24], [25, 26, 27], [28, 29]])) _ s) _
  refine s_asg1 (v_lst (isins_ok (a := a) rfl ht _ _ ⟨by show 2 ≤ line; decide, ?_⟩))
  have E1 : Ext Non s (s.push (.lst ([1, 2].map fun c => .bl (B e c)))) := Ext.push w
  refine codeS_ok (a := a) (e := e) _ _ _ _ [1, 2] _ ⟨none, rfl⟩ (tag_ext w E1 (fun z => z) ht) push_new (by decide) E1.wf fun b s' env ⟨y, henv⟩ hb E2 => ?_
  subst henv
  have hbs : ([1, 2] ++ [[3, 4], [5, 6], [7, 8], [9, 10], [11, 12], [13, 14], [15, 16], [17, 18], [19, 20], [21, 22], [23, 24], [25, 26, 27], [28, 29]].flatten : List Nat) = (List.range 29).map (· + 1) := by decide
  rw [hbs, List.map_map] at hb
  have len : ((List.range 29).map ((fun c => AV.bl (B e c)) ∘ fun x => x + 1)).length = 29 := by rw [List.length_map, List.length_range]
  have hlst := lstOf_lst hb
  refine s_ret (v_lc (i_rng (v_bi (l_cons (v_var rfl (l_nil (b_len hlst ?_)))))))
  rw [len]
  refine ⟨29, rfl, by decide, ?_⟩
  refine lcA_inv ((List.range 29).map fun j : Nat => AV.int (0 + (j : Int))) (fun i vs s2 => Ext Non s' s2 ∧ vs.length ≤ i ∧ vs = ((List.range i).filter fun j => B e (j + 1)).map fun j : Nat => .int j) rng_len ⟨Ext.refl E2.wf, Nat.le_refl _, rfl⟩ (fun i vs s _ => rng_item) (fun i x vs s3 hx ⟨E3, hl, hv⟩ => ?_) (fun vs s4 ⟨E4, hl, hv⟩ => ?_)
  · have hi : i < 29 := by
      have q := (List.getElem?_eq_some_iff.mp hx).1
      rw [List.length_map, List.length_range] at q
      exact q
    rw [List.getElem?_map, List.getElem?_range hi] at hx
    have hx : AV.int (0 + (i : Int)) = x := by injection hx
    subst hx
    refine lcE_if (env2 := [some (.ref a), some (.ref b), some (.int (0 + (i : Int)))]) rfl (t_val (fun _ => rfl) (v_idx (v_var rfl (v_var rfl ?_))))
    refine ix_lst (v := .bl (B e (i + 1))) (E3.get E2.wf hb (fun z => z)) ?_ ?_
    · rw [Int.zero_add]
      refine L2.atI_nat ?_
      rw [List.getElem?_map, List.getElem?_range hi]
      rfl
    refine Rn.of (v := B e (i + 1)) (s' := s3) rfl ?_
    cases hB : B e (i + 1) with
    | true =>
      rw [if_pos rfl]
      refine v_var rfl ⟨E3, by simp; omega, ?_⟩
      rw [List.range_succ, List.filter_append, List.map_append, ← hv, List.filter_cons, if_pos hB, Int.zero_add]
      rfl
    | false =>
      rw [if_neg Bool.false_ne_true]
      refine ⟨E3, by simp; omega, ?_⟩
      rw [List.range_succ, List.filter_append, List.map_append, ← hv, List.filter_cons, if_neg (by rw [hB]; exact Bool.false_ne_true)]
      rfl
  · rw [List.length_map, List.length_range] at hl hv
    exact ⟨Nat.le_trans hl (by decide), e_rt ⟨_, rfl, by rw [hv]; exact push_new, E1.trans (E2.trans (E4.trans (Ext.push E4.wf)))⟩⟩
theorem codes27 : all27.map codeOf = (List.range 27).map fun j => [j] := by decide +kernel
theorem is_error_ok (n : Nat) (s : St) (a e : Nat) (he : e < 30) (ht : tagA s (.ref a) = some (.cls e)) : Rn (callN cl ds (n + 1) 10 [.ref a] s) fun r s' => r = .bl true ∧ s' = s := by
  have h1 : ∀ e < 30, [Ty.cls 0].any (isT cl (.cls e)) = true ∧ [Ty.verr].any (isT cl (.cls e)) = true := by decide +kernel
  have z : ∀ ts, [Ty.cls 0] = ts ∨ [Ty.verr] = ts → isinA cl ts (.ref a) s = .ok (.bl true) s := by
    intro ts h
    change (match tagA s (.ref a) with
      | some g => Out.ok (AV.bl (ts.any (isT cl g))) s
      | none => .bad) = _
    rw [ht]
    rcases h with rfl | rfl
    · exact congrArg (fun b => Out.ok (AV.bl b) s) (h1 e he).1
    · exact congrArg (fun b => Out.ok (AV.bl b) s) (h1 e he).2
  refine r_call (d := d10) rfl rfl ?_
  refine s_ret (v_and (v_isin (v_var rfl (Rn.of (z _ (.inl rfl)) ⟨true, rfl, it_t (v_isin (v_var rfl (Rn.of (z _ (.inr rfl)) (e_rt ⟨rfl, rfl⟩))))⟩))))
end K01
end
section
set_option Elab.async false
set_option linter.all false
set_option maxRecDepth 100000
set_option maxHeartbeats 1000000
/-! K01f: a list of errors is right. -/
namespace K01
open MP PySem
/-- refs to such objects -/
def Objs (s : St) : List AV → List AO → Prop
  | [], [] => True
  | e :: es, c :: cs => (∃ a, e = .ref a ∧ s.g a = some c) ∧ Objs s es cs
  | _, _ => False
theorem Objs.len {s : St} : ∀ {es : List AV} {cs : List AO}, Objs s es cs → es.length = cs.length
  | [], [], _ => rfl
  | [], _ :: _, h => h.elim
  | _ :: _, [], h => h.elim
  | e :: es, c :: cs, h => congrArg (· + 1) (Objs.len (es := es) (cs := cs) h.2)
theorem Objs.app {s : St} : ∀ {es : List AV} {cs : List AO} {es2 : List AV} {cs2 : List AO}, Objs s es cs → Objs s es2 cs2 → Objs s (es ++ es2) (cs ++ cs2)
  | [], [], _, _, _, h => h
  | [], _ :: _, _, _, h, _ => h.elim
  | _ :: _, [], _, _, h, _ => h.elim
  | e :: es, c :: cs, _, _, h, h2 => ⟨h.1, Objs.app (es := es) (cs := cs) h.2 h2⟩
theorem Objs.ext {s s' : St} (w : Wf s) (E : Ext Non s s') : ∀ {es : List AV} {cs : List AO}, Objs s es cs → Objs s' es cs
  | [], [], _ => trivial
  | [], _ :: _, h => h.elim
  | _ :: _, [], h => h.elim
  | e :: es, c :: cs, h => by
    obtain ⟨⟨a, ea, ha⟩, h2⟩ := h
    exact ⟨⟨a, ea, E.get w ha (fun z => z)⟩, Objs.ext w E h2⟩
theorem rd_lst {s : St} {n a : Nat} {xs : List AV} (e : s.g a = some (.lst xs)) : rd s (n + 1) (.ref a) = (mapO (rd s n) xs).map .list := by
  change (match s.g a with
      | some (.lst xs) => (mapO (rd s n) xs).map PyData.list
      | some (.flst xs) => (mapO (rd s n) xs).map PyData.list
      | _ => none) = _
  rw [e]
theorem mapO_cons {α β : Type} {f : α → Option β} {x : α} {y : β} {xs : List α} {ys : List β} (h : f x = some y) (h2 : mapO f xs = some ys) : mapO f (x :: xs) = some (y :: ys) := by
  simp only [mapO, h, h2]
theorem rd_ints {s : St} {n : Nat} : ∀ js : List Nat, mapO (rd s (n + 1)) (js.map fun j : Nat => AV.int j) = some (js.map fun j : Nat => PyData.int j)
  | [] => rfl
  | j :: js => mapO_cons rfl (rd_ints js)
def nums (js : List Nat) : AO := .lst (js.map fun j : Nat => .int j)
def numsD (js : List Nat) : PyData := .list (js.map fun j : Nat => .int j)
theorem rd_objs {s : St} {n : Nat} : ∀ {es : List AV} {jss : List (List Nat)}, Objs s es (jss.map nums) → mapO (rd s (n + 2)) es = some (jss.map numsD)
  | [], [], _ => rfl
  | [], _ :: _, h => h.elim
  | _ :: _, [], h => h.elim
  | e :: es, js :: jss, h => by
    obtain ⟨⟨a, ea, ha⟩, h2⟩ := h
    subst ea
    have h2 : Objs s es (jss.map nums) := h2
    have q := rd_objs (n := n) h2
    have q1 : rd s (n + 2) (.ref a) = some (numsD js) := by
      rw [rd_lst ha, rd_ints]
      rfl
    exact mapO_cons q1 q
theorem eq_data {s : St} {a b : Nat} {d e : PyData} {P : Bool → St → Prop} (hd : rd s 60 (.ref a) = some d) (he : rd s 60 (.ref b) = some e) (sd : SeqAt.shaped d = true) (se : SeqAt.shaped e = true) (h : P (PyData.eqv d e) s) : Rn (eqA (.ref a) (.ref b) s) P := by
  refine Rn.of (v := PyData.eqv d e) (s' := s) ?_ h
  change (match rd s 60 (.ref a), rd s 60 (.ref b) with
    | some d, some e => M.guard (SeqAt.shaped d && SeqAt.shaped e) (.pure (PyData.eqv d e)) s
    | _, _ => .bad) = _
  rw [hd, he]
  show M.guard (SeqAt.shaped d && SeqAt.shaped e) (.pure (PyData.eqv d e)) s = _
  rw [sd, se]
  rfl
theorem o_eq {x y : AV} {s : St} {P : Bool → St → Prop} (h : Rn (eqA x y s) P) : Rn (opC .eq x y s) P := h
theorem o_ne {x y : AV} {s : St} {P : Bool → St → Prop} (h : Rn (eqA x y s) fun b s' => P (!b) s') : Rn (opC .ne x y s) P := Rn.bind (h.mono fun _ _ q => Rn.ok q)
/-- repr says so, now and later -/
def RP (s : St) (v : AV) (x : Str) : Prop := ∀ s', Ext Non s s' → biA .repr [v] s' = .ok (.str x) s'
theorem RP.ext {s s' : St} {v : AV} {x : Str} (h : RP s v x) (E : Ext Non s s') : RP s' v x := fun s2 E2 => h s2 (E.trans E2)
theorem all27_len : all27.length = 27 := rfl
theorem right_ok (n : Nat) (s : St) (b : Nat) (es : List AV) (v : AV) (x : Str) (w : Wf s) (hb : s.g b = some (.lst es)) (hm : Made s v es all27) (hr : RP s v x) :
    Rn (callN cl ds (n + 2) 11 [.ref b, .str x] s) fun r s' => r = .bl true ∧ Ext Non s s' := by
  have hlen : es.length = 27 := hm.len
  refine r_call (d := d11) rfl rfl ?_
  refine s_ite (t_cmp (v_lc (i_val (fun _ => rfl) (v_var rfl (iter_lst (lstOf_lst hb) ?_)))))
  refine lcA_inv es (fun i vs s2 => Ext Non s s2 ∧ Objs s2 vs (((all27.take i).map codeOf).map nums)) (lst_len (lstOf_lst hb)) ⟨Ext.refl w, trivial⟩ (fun i vs s2 ⟨E, _⟩ => lst_item (lstOf_lst (E.get w hb (fun z => z)))) (fun i y vs s3 hx ⟨E3, ho⟩ => ?_) (fun vs s1 ⟨E1, ho⟩ => ?_)
  · obtain ⟨a, c, ey, hc, ha⟩ := hm.get hx
    subst ey
    refine lcE_nil (env2 := [some (.ref b), some (.str x), some (.ref a), none]) rfl (v_call (l_cons (v_var rfl (l_nil ?_))))
    refine (code_ok n s3 a c E3.wf ?_).mono fun r s4 ⟨k, er, hk, E4⟩ => ?_
    · have q := E3.get w ha (fun z => z)
      change (match s3.g a with
        | some (.lst _) => some Tag.lst
        | some (.flst _) => some Tag.lst
        | some (.dic _) => some Tag.dic
        | some (.exc c _) => some (Tag.cls c)
        | some (.exn c) => some (Tag.cls c)
        | some (.ins c _) => some (Tag.cls c)
        | none => none) = _
      rw [q]
    refine ⟨E3.trans E4, ?_⟩
    rw [List.take_add_one, hc, List.map_append, List.map_append]
    exact (ho.ext E3.wf E4).app ⟨⟨k, er, hk⟩, trivial⟩
  rw [hlen, show all27.take 27 = all27 from rfl] at ho
  have l1 : vs.length = 27 := by rw [ho.len, List.length_map, List.length_map]; rfl
  refine ⟨by rw [l1]; decide, ?_⟩
  have F1 : Ext Non s1 (s1.push (.lst vs)) := Ext.push E1.wf
  have ho := ho.ext E1.wf F1
  refine v_lc (i_rng (v_int ⟨27, rfl, by decide, ?_⟩))
  refine lcA_inv ((List.range 27).map fun j : Nat => AV.int (0 + (j : Int))) (fun i us s2 => Ext Non (s1.push (.lst vs)) s2 ∧ us.length = i ∧ Objs s2 us (((List.range i).map fun j => [j]).map nums)) rng_len ?_ (fun i vs s _ => rng_item) (fun i y us s3 hx ⟨E3, hl, ho⟩ => ?_) (fun us s2 ⟨E2, hl, ho2⟩ => ?_)
  · exact ⟨Ext.refl F1.wf, rfl, trivial⟩
  · have hi : i < 27 := by
      have q := (List.getElem?_eq_some_iff.mp hx).1
      rw [List.length_map, List.length_range] at q
      exact q
    rw [List.getElem?_map, List.getElem?_range hi] at hx
    have hx : AV.int (0 + (i : Int)) = y := by injection hx
    subst hx
    refine lcE_nil (env2 := [some (.ref b), some (.str x), none, some (.int (0 + (i : Int)))]) rfl (v_lst (l_cons (v_var rfl (l_nil ⟨by show 1 ≤ line; decide, ?_⟩))))
    refine ⟨E3.trans (Ext.push E3.wf), by simp [hl], ?_⟩
    rw [List.range_succ, List.map_append, List.map_append]
    refine (ho.ext E3.wf (Ext.push E3.wf)).app ⟨⟨_, rfl, ?_⟩, trivial⟩
    rw [Int.zero_add]
    exact push_new
  rw [List.length_map, List.length_range] at hl ho2
  refine ⟨by rw [hl]; decide, ?_⟩
  have F2 : Ext Non s2 (s2.push (.lst us)) := Ext.push E2.wf
  have ho2 := ho2.ext E2.wf F2
  have ho1 := ho.ext F1.wf (E2.trans F2)
  have g1 : (s2.push (.lst us)).g s1.n = some (.lst vs) := (E2.trans F2).get F1.wf push_new (fun z => z)
  rw [codes27] at ho1
  have r1 : rd (s2.push (.lst us)) 60 (.ref s1.n) = some (.list (((List.range 27).map fun j => [j]).map numsD)) := by
    rw [rd_lst g1, rd_objs ho1]
    rfl
  have r2 : rd (s2.push (.lst us)) 60 (.ref s2.n) = some (.list (((List.range 27).map fun j => [j]).map numsD)) := by
    rw [rd_lst push_new, rd_objs ho2]
    rfl
  have sh : SeqAt.shaped (.list (((List.range 27).map fun j => [j]).map numsD)) = true := by decide +kernel
  have eq : PyData.eqv (.list (((List.range 27).map fun j => [j]).map numsD)) (.list (((List.range 27).map fun j => [j]).map numsD)) = true := by decide +kernel
  refine o_ne (eq_data r1 r2 sh sh ?_)
  rw [eq]
  refine it_f (s_nil (th_nx (s_ret (v_cmp (v_lc (i_val (fun _ => rfl) (v_var rfl ?_)))))))
  have E4 : Ext Non s (s2.push (.lst us)) := E1.trans (F1.trans (E2.trans F2))
  refine iter_lst (lstOf_lst (E4.get w hb (fun z => z))) ?_
  refine lcA_inv es (fun i vs s3 => Ext Non (s2.push (.lst us)) s3 ∧ vs = []) (lst_len (lstOf_lst (E4.get w hb (fun z => z)))) ⟨Ext.refl F2.wf, rfl⟩ (fun i vs s2 ⟨E, _⟩ => lst_item (lstOf_lst ((E4.trans E).get w hb (fun z => z)))) (fun i y vs s3 hx ⟨E3, hv⟩ => ?_) (fun vs s5 ⟨E5, hv⟩ => ?_)
  · obtain ⟨a, c, ey, hc, ha⟩ := hm.get hx
    subst ey
    have q := (E4.trans E3).get w ha (fun z => z)
    have hc30 : c < 30 := by
      have all : ∀ c ∈ all27, c < 30 := by decide +kernel
      exact all c (List.mem_of_getElem? hc)
    refine lcE_if (env2 := [some (.ref b), some (.str x), some (.ref a), none]) rfl (t_or (t_not (t_val (fun _ => rfl) (v_call (l_cons (v_var rfl (l_nil ?_)))))))
    refine (is_error_ok n s3 a c hc30 ?_).mono fun r s4 ⟨er, es4⟩ => ?_
    · change (match s3.g a with
        | some (.lst _) => some Tag.lst
        | some (.flst _) => some Tag.lst
        | some (.dic _) => some Tag.dic
        | some (.exc c _) => some (Tag.cls c)
        | some (.exn c) => some (Tag.cls c)
        | some (.ins c _) => some (Tag.cls c)
        | none => none) = _
      rw [q]
    subst er
    have es4 := es4.symm
    subst es4
    refine Rn.of (v := true) (s' := s3) rfl (it_f (t_cmp (v_bi (l_cons (v_fld (v_var rfl (Rn.of (v := v) (s' := s3) ?_ (l_nil (Rn.of (hr s3 (E4.trans E3)) (v_var rfl (o_ne ?_)))))))))))
    · change (match s3.g a with
        | some (.exc _ v) => M.guard (decide (PySem.Str.ofString "value" = "value")) (.pure v) s3
        | some (.ins _ fs) => M.opt (fs.lookup (PySem.Str.ofString "value")) s3
        | _ => .bad) = _
      rw [q]
      show M.guard (decide (PySem.Str.ofString "value" = "value")) (.pure v) s3 = _
      rw [show decide (PySem.Str.ofString "value" = "value") = true by decide +kernel]
      rfl
    · refine Rn.of (v := true) (s' := s3) (congrArg (fun b => Out.ok b s3) (decide_eq_true rfl)) ?_
      rw [Bool.not_true, if_neg Bool.false_ne_true]
      exact ⟨E3, by rw [hv]; rfl⟩
  · subst hv
    refine ⟨by show 0 ≤ line; decide, ?_⟩
    have F5 : Ext Non s5 (s5.push (.lst [])) := Ext.push E5.wf
    refine v_lst (l_nil ⟨by show 0 ≤ line; decide, ?_⟩)
    have F6 : Ext Non (s5.push (.lst [])) ((s5.push (.lst [])).push (.lst [])) := Ext.push F5.wf
    have g1 : ((s5.push (.lst [])).push (.lst [])).g s5.n = some (.lst []) := F6.get F5.wf push_new (fun z => z)
    refine o_eq (eq_data (d := .list []) (e := .list []) (by rw [rd_lst g1]; rfl) (by rw [rd_lst push_new]; rfl) (by decide +kernel) (by decide +kernel) ?_)
    rw [show PyData.eqv (.list []) (.list []) = true by decide +kernel]
    exact e_rt ⟨rfl, E4.trans (E5.trans (F5.trans F6))⟩
end K01
end
section
set_option Elab.async false
set_option linter.all false
set_option maxRecDepth 100000
set_option maxHeartbeats 1000000
/-! K01g: purses. -/
namespace K01
open MP PySem
local macro_rules | `(tactic| walk_at "mgo") => `(tactic| (repeat (first
  | refine v_bin ?_ | refine v_var rfl ?_ | refine v_int ?_ | refine v_str ?_ | refine v_non ?_ | refine v_bl ?_ | refine o_add ?_ | refine o_sub ?_ | refine v_bi ?_ | refine l_cons ?_ | refine l_nil ?_ | refine b_int ?_ | refine b_max ?_ | refine b_min ?_ | refine s_asg1 ?_ | refine s_ret ?_ | refine v_call ?_ | refine v_idx ?_ | refine s_nil ?_)))
theorem Purse.ext {X : Nat → Prop} {s s' : St} {a : Nat} {k x1 : Int} (w : Wf s) (E : Ext X s s') (hx : ¬ X a) (p : Purse s a k x1) : Purse s' a k x1 := by
  obtain ⟨x0, x2, x3, e, h⟩ := p.ex
  exact ⟨x0, x2, x3, E.get w e hx, h⟩
theorem Purse.up {s : St} {a : Nat} {k k' x1 : Int} (p : Purse s a k x1) (h : k ≤ k') : Purse s a k' x1 := by
  obtain ⟨x0, x2, x3, e, h0, h2, h3⟩ := p.ex
  exact ⟨x0, x2, x3, e, h0, h2, by omega⟩
theorem o_pow {i j : Int} {s : St} {P : AV → St → Prop} (g : (decide (0 ≤ j) && decide ((Builtin.Int.intBits i : Int) * j ≤ 2 ^ 27)) = true) (h : P (.int (i ^ j.toNat)) s) : Rn (opB .pow (.int i) (.int j) s) P :=
  Rn.guard g (Rn.ok h)
theorem sl_flst {s : St} {a : Nat} {xs : List AV} {l h : Option Int} {P : AV → St → Prop} (e : s.g a = some (.flst xs)) (hp : P (.ref s.n) (s.push (.lst (cutA xs l h)))) : Rn (slA (.ref a) l h s) P := by
  refine Rn.of (v := .ref s.n) (s' := s.push (.lst (cutA xs l h))) ?_ hp
  change (match s.g a with
      | some (.lst xs) => M.new (.lst (cutA xs l h)) s
      | some (.flst xs) => M.new (.lst (cutA xs l h)) s
      | _ => .bad) = _
  rw [e]
  rfl
theorem cut_map {α β : Type} (f : α → β) (xs : List α) (l h : Option Int) : cutA (xs.map f) l h = (cutA xs l h).map f := by
  simp only [cutA, List.length_map, List.map_take, List.map_drop]
theorem asInts_map : ∀ ns : List Int, asInts (ns.map AV.int) = some ns
  | [] => rfl
  | n :: ns => by
    show (asInts (ns.map AV.int)).map (n :: ·) = _
    rw [asInts_map ns]
    rfl
theorem purse_ok (n : Nat) (s : St) (z : Nat) (i : Int) (ns : List Int) (w : Wf s) (h0 : s.g z = some (.flst (ns.map AV.int))) :
    Rn (callN cl ds (n + 1) 0 [.ref z, .int i] s) fun v s' => Ext Non s s' ∧ ∃ a x1, v = .ref a ∧ Purse s' a 0 x1 ∧ 0 ≤ x1 ∧ x1 < 2147483629 := by
  refine r_call (d := d0) rfl rfl ?_
  refine s_asg1 (v_bi (l_cons (v_sl (v_var rfl (o_cons (v_var rfl ⟨_, rfl, o_cons (v_bin (v_var rfl (v_int (o_add ⟨_, rfl, sl_flst h0 ?_⟩))))⟩))))))
  rw [cut_map]
  refine l_nil (b_sum (lstOf_lst push_new) (asInts_map _) ?_)
  generalize (cutA ns (some i) (some (i + 1))).sum = t
  have E1 : Ext Non s (s.push (.lst ((cutA ns (some i) (some (i + 1))).map AV.int))) := Ext.push w
  refine s_ret (v_lst ?_)
  walk_at "mgo"
  have hp : (0 : Int) < (10 ^ (60 : Int).toNat) ^ (8 : Int).toNat := by decide +kernel
  refine ⟨by show 4 ≤ line; decide, ?_⟩
  have q := fmod_rng (i := t) (j := 2147483629) (by decide)
  refine e_rt ⟨E1.trans (Ext.push E1.wf), _, _, rfl, ⟨_, _, _, push_new, (fmod_rng hp).1, Int.le_refl _, Int.le_refl _⟩, q.1, q.2⟩
def Good (s : St) (k : Int) (e : AV) : Prop := ∃ a x1, e = .ref a ∧ Purse s a k x1 ∧ 0 ≤ x1 ∧ x1 < 2147483629
theorem purses_ok (n : Nat) (s : St) (z : Nat) (ns : List Int) (w : Wf s) (h0 : s.g z = some (.flst (ns.map AV.int))) :
    Rn (callN cl ds (n + 2) 3 [.ref z, .int 3] s) fun v s' => Ext Non s s' ∧ ∃ a es, v = .ref a ∧ s'.g a = some (.lst es) ∧ es.length ≤ 3 ∧ ∀ e ∈ es, Good s' 0 e := by
  refine r_call (d := d3) rfl rfl ?_
  refine s_ret (v_lc (i_rng ?_))
  walk_at "mgo"
  refine b_len (lstOf_flst h0) ?_
  walk_at "mgo"
  rw [List.length_map]
  refine ⟨_, rfl, ?_, ?_⟩
  · split <;> split <;> omega
  generalize hj : (if (if (ns.length : Int) < 3 then (ns.length : Int) else 3) > 1 then (if (ns.length : Int) < 3 then (ns.length : Int) else 3) else 1) = j
  have j3 : j.toNat ≤ 3 := by
    rw [← hj]
    split <;> split <;> omega
  refine lcA_inv ((List.range j.toNat).map fun j : Nat => AV.int (0 + (j : Int))) (fun i vs s2 => Ext Non s s2 ∧ vs.length = i ∧ ∀ e ∈ vs, Good s2 0 e) rng_len ⟨Ext.refl w, rfl, by simp⟩ (fun i vs s _ => rng_item) (fun i x vs s3 hx ⟨E3, hl, hv⟩ => ?_) (fun vs s4 ⟨E4, hl, hv⟩ => ?_)
  · rw [List.getElem?_map] at hx
    obtain ⟨m, _, rfl⟩ := Option.map_eq_some_iff.mp hx
    refine lcE_nil (env2 := [some (.ref z), some (.int 3), some (.int (0 + (m : Int)))]) rfl ?_
    walk_at "mgo"
    refine (purse_ok n s3 z _ ns E3.wf (E3.get w h0 (fun z => z))).mono fun v s4 ⟨E4, a, x1, ev, hp⟩ => ?_
    refine ⟨E3.trans E4, by simp [hl], fun e he => ?_⟩
    rcases List.mem_append.mp he with he | he
    · obtain ⟨a, x1, e1, p, h⟩ := hv e he
      exact ⟨a, x1, e1, p.ext E3.wf E4 (fun z => z), h⟩
    · have he : e = v := by simpa using he
      exact ⟨a, x1, he.trans ev, hp⟩
  · rw [List.length_map, List.length_range] at hl
    have F : Ext Non s4 (s4.push (.lst vs)) := Ext.push E4.wf
    refine ⟨by show _ ≤ 16777216; omega, e_rt ⟨E4.trans F, _, vs, rfl, push_new, by omega, fun e he => ?_⟩⟩
    obtain ⟨a, x1, e1, p, h⟩ := hv e he
    exact ⟨a, x1, e1, p.ext E4.wf F (fun z => z), h⟩
theorem one_of_ok (n : Nat) (s : St) (a b : Nat) (k x1 : Int) (es : List AV) (w : Wf s) (p : Purse s a k x1) (hk : k < 2 ^ 60) (hb : s.g b = some (.lst es)) (h1 : 0 < es.length) (h2 : es.length < 134217728) (hab : b ≠ a) :
    Rn (callN cl ds (n + 3) 4 [.ref a, .ref b] s) fun v s' => Ext (· = a) s s' ∧ Purse s' a (k + 1) x1 ∧ v ∈ es := by
  refine r_call (d := d4) rfl rfl ?_
  refine s_ret (v_idx (v_var rfl (v_call (l_cons (v_var rfl (l_cons (v_bi (l_cons (v_var rfl (l_nil (b_len (lstOf_lst hb) (l_nil ?_))))))))))))
  refine (draw_ok n s a k x1 _ w p hk (by omega) (by omega)).mono fun v s1 ⟨_, E1, p1, r, er, r0, r1⟩ => ?_
  subst er
  have hi : r.toNat < es.length := by omega
  have er : ((r.toNat : Nat) : Int) = r := by omega
  refine ix_lst (v := es[r.toNat]) (E1.get w hb hab) ?_ (e_rt ⟨E1, p1, List.getElem_mem hi⟩)
  have q := L2.atI_nat (List.getElem?_eq_getElem hi)
  rw [er] at q
  exact q
end K01
end
section
set_option Elab.async false
set_option linter.all false
set_option maxRecDepth 100000
set_option maxHeartbeats 1000000
/-! K01h: the things. -/
namespace K01
open MP PySem
theorem rdx_lst {s : St} {n a : Nat} {xs : List AV} {ys : List PyData} (e : s.g a = some (.lst xs)) (h : mapO (rdx s n) xs = some ys) : rdx s (n + 1) (.ref a) = some (.list ys) := by
  change (match s.g a with
      | some (.lst xs) => (mapO (rdx s n) xs).map PyData.list
      | some (.flst xs) => (mapO (rdx s n) xs).map PyData.list
      | some (.dic kvs) => (mapO (fun p : L2.Key × AV => (rdx s n p.2).map fun d => (rdk p.1, d)) kvs).map PyData.dict
      | _ => none) = _
  rw [e]
  show (mapO (rdx s n) xs).map PyData.list = _
  rw [h]
  rfl
theorem rdx_dic {s : St} {n a : Nat} {kvs : List (L2.Key × AV)} {ys : List (PyData × PyData)} (e : s.g a = some (.dic kvs)) (h : mapO (fun p : L2.Key × AV => (rdx s n p.2).map fun d => (rdk p.1, d)) kvs = some ys) : rdx s (n + 1) (.ref a) = some (.dict ys) := by
  change (match s.g a with
      | some (.lst xs) => (mapO (rdx s n) xs).map PyData.list
      | some (.flst xs) => (mapO (rdx s n) xs).map PyData.list
      | some (.dic kvs) => (mapO (fun p : L2.Key × AV => (rdx s n p.2).map fun d => (rdk p.1, d)) kvs).map PyData.dict
      | _ => none) = _
  rw [e]
  show (mapO (fun p : L2.Key × AV => (rdx s n p.2).map fun d => (rdk p.1, d)) kvs).map PyData.dict = _
  rw [h]
  rfl
theorem mapO_nil {α β : Type} {f : α → Option β} : mapO f [] = some [] := rfl
theorem rdx_tup {s : St} {n : Nat} {xs : List AV} {ys : List PyData} (h : mapO (rdx s n) xs = some ys) : rdx s (n + 1) (.tup xs) = some (.tuple ys) := by
  show (mapO (rdx s n) xs).map PyData.tuple = _
  rw [h]
  rfl
theorem RP_data {s : St} {v : AV} {d : PyData} (hv : (∃ xs, v = .tup xs) ∨ ∃ a, v = .ref a) (hd : ∀ s', Ext Non s s' → rdx s' 20 v = some d) (h1 : d.showable = true) (h2 : d.leavesShort 13 = true) (h3 : d.weight ≤ 2 ^ 20) (h4 : d.depth ≤ 60) : RP s v d.shown := by
  intro s' E
  have q := hd s' E
  have hl : d.shown.length ≤ line := by
    have q := PyData.shown_le 13 (by decide) d h2
    show _ ≤ 16777216
    have e : (2 : Nat) ^ 20 = 1048576 := by decide
    omega
  have z : biA .repr [v] s' = (match rdx s' 20 v with
    | some d => M.guard (d.showable && (decide (d.shown.length ≤ line) && decide (d.depth ≤ 60))) (.pure (AV.str d.shown)) s'
    | none => .bad) := by
    rcases hv with ⟨xs, rfl⟩ | ⟨a, rfl⟩ <;> rfl
  rw [z, q]
  show M.guard (d.showable && (decide (d.shown.length ≤ line) && decide (d.depth ≤ 60))) (.pure (AV.str d.shown)) s' = _
  rw [h1, decide_eq_true hl, decide_eq_true h4]
  rfl
/-- what was built for a turn -/
structure Built (s : St) (m : Nat) (w : PySem.Str) : Prop where
  g0 : s.g m = some (.lst [.str w])
  g1 : s.g (m + 1) = some (.dic [(Sum.inr w, AV.ref (m + 2))])
  g2 : s.g (m + 2) = some (.lst [.str w])
  g4 : s.g (m + 4) = some (.lst [.str w])
  g5 : s.g (m + 5) = some (.lst [.str w])
  g6 : s.g (m + 6) = some (.dic [(Sum.inr (Str.ofString "out"), AV.str w)])
  g7 : s.g (m + 7) = some (.lst [.ref (m + 5), .ref (m + 6)])
def things (m : Nat) (w : Str) (x1 : Int) : List AV := [.non, .bl true, .bl false, .int 0, .str w, .int (-x1), .tup [.str w, .str (Str.ofString "in"), .str (Str.ofString "out"), .int 1, .int 2], .tup [.str w, .ref m], .ref (m + 1), .ref (m + 4), .ref (m + 7)]
def mut3 (fin : S) : S := .ite (.isin (.var 5) [.list] false)
  (.exp (.meth .append (.var 5) (.cons (.str (PySem.Str.ofString "later")) .nil))
  .nil)
  .nil
  (.ite (.isin (.var 5) [.dict] false)
  (.exp (.meth .append (.idx (.var 5) (.var 3)) (.cons (.str (PySem.Str.ofString "later")) .nil))
  (.sub (.var 5) (.str (PySem.Str.ofString "LATER")) (.int 1)
  .nil))
  .nil
  (.ite (.and (.isin (.var 5) [.tuple] false) (.cmp .eq (.bi .len (.cons (.var 5) .nil)) (.int 2)))
  (.exp (.meth .append (.idx (.var 5) (.int 1)) (.cons (.str (PySem.Str.ofString "later")) .nil))
  .nil)
  .nil
  fin))
theorem t_isin {C : Calls} {env : MP.Env} {s : St} {v : AV} {g : Tag} {ts : List Ty} {P : Bool → St → Prop} (h5 : env[5]?.join = some v) (hg : tagA s v = some g) (h : P (ts.any (isT cl g)) s) : Rn ((den cl C (.isin (.var 5) ts false)).t env s) P := by
  refine t_val (fun _ => rfl) (v_isin (v_var h5 (Rn.of (v := .bl (ts.any (isT cl g))) (s' := s) ?_ (Rn.of (v := ts.any (isT cl g)) (s' := s) rfl h))))
  change (match tagA s v with
      | some g => Out.ok (AV.bl (ts.any (isT cl g))) s
      | none => .bad) = _
  rw [hg]
theorem s_app {C : Calls} {o : E} {z : Str} {r : S} {env : MP.Env} {s : St} {P : Fl → St → Prop} (h : Rn ((den cl C o).v env s) fun v s1 => ∃ a xs, v = .ref a ∧ s1.g a = some (.lst xs) ∧ xs.length < line ∧ Rn (exec cl C r env (s1.set a (.lst (xs ++ [.str z])))) P) : Rn (exec cl C (.exp (.meth .append o (.cons (.str z) .nil)) r) env s) P := by
  refine s_exp (v_meth (h.mono fun v s1 ⟨a, xs, ev, hg, hl, q⟩ => ?_))
  subst ev
  refine Rn.of (v := ()) (s' := s1) ?_ (l_cons (v_str (l_nil (Rn.of (v := .non) (s' := s1.set a (.lst (xs ++ [.str z]))) ?_ q))))
  · change (match lstOf s1 (.ref a) with
    | some _ => Out.ok () s1
    | none => .bad) = _
    rw [lstOf_lst hg]
  · change (match s1.g a with
    | some (.lst xs) => M.guard (decide (xs.length < line)) (fun s => Out.ok AV.non (s.set a (.lst (xs ++ [AV.str z])))) s1
    | _ => .bad) = _
    rw [hg]
    show M.guard (decide (xs.length < line)) (fun s => Out.ok AV.non (s.set a (.lst (xs ++ [AV.str z])))) s1 = _
    rw [decide_eq_true hl]
    rfl
/-- the thing's change: what is shown later -/
def Mut (lo : Nat) (s : St) (w : Str) (v : AV) : Prop := ∃ (X : Nat → Prop) (y : Str), (∀ a, X a → lo ≤ a ∧ a < s.n ∧ ∀ c u, s.g a ≠ some (.exc c u)) ∧
  ∀ (C : Calls) (env : MP.Env) (s1 : St) (fin : S) (P : Fl → St → Prop), env[3]?.join = some (.str w) → env[5]?.join = some v → Ext Non s s1 → (∀ s2, Ext X s1 s2 → RP s2 v y → Rn (exec cl C fin env s2) P) → Rn (exec cl C (mut3 fin) env s1) P
theorem mut_none {lo : Nat} {s : St} {w : Str} {v : AV} {x : Str} {g : Tag} (hr : RP s v x) (hg : ∀ s, tagA s v = some g) (h1 : [Ty.list].any (isT cl g) = false) (h2 : [Ty.dict].any (isT cl g) = false) (h3 : [Ty.tuple].any (isT cl g) = false) : Mut lo s w v := by
  refine ⟨Non, x, fun a h => h.elim, fun C env s1 fin P e3 e5 E h => ?_⟩
  refine s_ite (t_isin e5 (hg _) ?_)
  rw [h1]
  refine it_f (s_nil (th_nx (s_ite (t_isin e5 (hg _) ?_))))
  rw [h2]
  refine it_f (s_nil (th_nx (s_ite (t_and (t_isin e5 (hg _) ?_)))))
  rw [h3]
  refine it_f (Rn.pure (it_f (s_nil (th_nx ?_))))
  exact h s1 (Ext.refl E.wf) (hr.ext E)
theorem mut_tup5 {lo : Nat} {s : St} {w : Str} {xs : List AV} {x : Str} (hr : RP s (.tup xs) x) (hl : xs.length ≠ 2) : Mut lo s w (.tup xs) := by
  refine ⟨Non, x, fun a h => h.elim, fun C env s1 fin P e3 e5 E h => ?_⟩
  refine s_ite (t_isin (g := .tup) e5 rfl (it_f (s_nil (th_nx (s_ite (t_isin (g := .tup) e5 rfl (it_f (s_nil (th_nx (s_ite (t_and (t_isin (g := .tup) e5 rfl ?_)))))))))))) 
  refine it_t (t_cmp (v_bi (l_cons (v_var e5 (l_nil (Rn.of (v := .int xs.length) (s' := s1) rfl (v_int (o_eq (Rn.of (v := false) (s' := s1) ?_ (it_f (s_nil (th_nx (h s1 (Ext.refl E.wf) (hr.ext E)))))))))))))) 
  exact congrArg (fun b => Out.ok b s1) (decide_eq_false fun q => hl (by omega))
end K01
end
section
set_option Elab.async false
set_option linter.all false
set_option maxRecDepth 100000
set_option maxHeartbeats 1000000
/-! K01i: the things, shown before and after their change. -/
namespace K01
open MP PySem
abbrev tIn : PySem.Str := Str.ofString "in"
abbrev tOut : PySem.Str := Str.ofString "out"
abbrev tLater : PySem.Str := Str.ofString "later"
abbrev tLATER : PySem.Str := Str.ofString "LATER"
/-- small data with these words -/
structure Fine (d : PyData) : Prop where
  a : d.showable = true
  b : d.leavesShort 13 = true
  c : d.weight ≤ 2 ^ 20
  d : d.depth ≤ 60
theorem sz_in : tIn.cps.size = 2 := by decide +kernel
theorem sz_out : tOut.cps.size = 3 := by decide +kernel
theorem sz_later : tLater.cps.size = 5 := by decide +kernel
theorem sz_LATER : tLATER.cps.size = 5 := by decide +kernel
theorem lg1 : Nat.log2 1 = 0 := by decide +kernel
theorem lg2 : Nat.log2 2 = 1 := by decide +kernel
section
variable {w : PySem.Str} (hw : Low w) (hl : w.length ≤ 8)
include hw hl
theorem leaf_w : (w.cps.toList.all fun c => decide (c < 16 ^ 8)) = true := by
  rw [List.all_eq_true]
  intro c hc
  have q := hw c hc
  exact decide_eq_true (by omega)
local macro_rules | `(tactic| walk_at "mfine") => `(tactic| (refine ⟨?_, ?_, ?_, ?_⟩ <;> first
  | (simp [PyData.showable, PyData.showableAll, PyData.showableKv]; done)
  | (simp only [PyData.showable, PyData.showableAll, PyData.showableKv]; decide +kernel)
  | (simp only [PyData.leavesShort, PyData.leavesShortAll, PyData.leavesShortKv, leaf_w hw hl]; decide +kernel)
  | (simp [PyData.depth, PyData.depthAll, PyData.depthKv]; done)
  | (have h8 : w.cps.size ≤ 8 := hl
     simp [PyData.weight, PyData.weightAll, PyData.weightKv, sz_in, sz_out, sz_later, sz_LATER, lg1, lg2]; try omega)))
theorem fine_l1 : Fine (.list [.str w]) := by walk_at "mfine"
theorem fine_l2 : Fine (.list [.str w, .str tLater]) := by walk_at "mfine"
theorem fine_t5 : Fine (.tuple [.str w, .str tIn, .str tOut, .int 1, .int 2]) := by walk_at "mfine"
theorem fine_t2 : Fine (.tuple [.str w, .list [.str w]]) := by walk_at "mfine"
theorem fine_t2b : Fine (.tuple [.str w, .list [.str w, .str tLater]]) := by walk_at "mfine"
theorem fine_d : Fine (.dict [(.str w, .list [.str w])]) := by walk_at "mfine"
theorem fine_db : Fine (.dict [(.str w, .list [.str w, .str tLater]), (.str tLATER, .int 1)]) := by walk_at "mfine"
theorem fine_n : Fine (.list [.list [.str w], .dict [(.str tOut, .str w)]]) := by walk_at "mfine"
theorem fine_nb : Fine (.list [.list [.str w], .dict [(.str tOut, .str w)], .str tLater]) := by walk_at "mfine"
theorem fine_lat : Fine (.tuple [.str tLater, .str w]) := by walk_at "mfine"
end
theorem RP_fine {s : St} {v : AV} {d : PyData} (f : Fine d) (hv : (∃ xs, v = .tup xs) ∨ ∃ a, v = .ref a) (hd : ∀ s', Ext Non s s' → rdx s' 20 v = some d) : RP s v d.shown := RP_data hv hd f.a f.b f.c f.d
theorem rd_l {s : St} {n a : Nat} {w : PySem.Str} (h : s.g a = some (.lst [.str w])) : rdx s (n + 2) (.ref a) = some (.list [.str w]) := rdx_lst h (mapO_cons rfl mapO_nil)
theorem rd_ll {s : St} {n a : Nat} {w : PySem.Str} (h : s.g a = some (.lst [.str w, .str tLater])) : rdx s (n + 2) (.ref a) = some (.list [.str w, .str tLater]) := rdx_lst h (mapO_cons rfl (mapO_cons rfl mapO_nil))
theorem no_exc {s : St} {a : Nat} {xs : List AV} (h : s.g a = some (.lst xs)) : ∀ c u, s.g a ≠ some (.exc c u) := fun c u q => by rw [h] at q; cases q
theorem no_excD {s : St} {a : Nat} {xs : List (L2.Key × AV)} (h : s.g a = some (.dic xs)) : ∀ c u, s.g a ≠ some (.exc c u) := fun c u q => by rw [h] at q; cases q
section
variable {w : PySem.Str} (hw : Low w) (hl : w.length ≤ 8) {s : St} {m : Nat} {x1 : Int} (B : Built s m w) (ws : Wf s)
include hw hl B ws
theorem mut_lst {lo : Nat} {a : Nat} {xs : List AV} {d : PyData} (h : s.g a = some (.lst xs)) (hlo : lo ≤ a) (hx : xs.length < line) (f : Fine d) (hd : ∀ s', Ext (· = a) s s' → s'.g a = some (.lst (xs ++ [.str tLater])) → rdx s' 20 (.ref a) = some d) : Mut lo s w (.ref a) := by
  have la := ws.lt h
  refine ⟨(· = a), d.shown, fun b hb => by subst hb; exact ⟨hlo, la, no_exc h⟩, fun C env s1 fin P e3 e5 E hk => ?_⟩
  have g1 := E.get ws h (fun z => z)
  have tg : ∀ s2 : St, ∀ ys, s2.g a = some (.lst ys) → tagA s2 (.ref a) = some .lst := by
    intro s2 ys hh
    change (match s2.g a with
      | some (.lst _) => some Tag.lst
      | some (.flst _) => some Tag.lst
      | some (.dic _) => some Tag.dic
      | some (.exc c _) => some (Tag.cls c)
      | some (.exn c) => some (Tag.cls c)
      | some (.ins c _) => some (Tag.cls c)
      | none => none) = _
    rw [hh]
  have E2 : Ext (· = a) s1 (s1.set a (.lst (xs ++ [.str tLater]))) := Ext.set E.wf (E.wf.lt g1) rfl
  have t2 := tg (s1.set a (.lst (xs ++ [.str tLater]))) _ set_same
  refine s_ite (t_isin e5 (tg s1 _ g1) ?_)
  refine it_t (s_app (v_var e5 ⟨a, xs, rfl, g1, hx, s_nil (th_nx ?_)⟩))
  refine s_ite (t_isin e5 t2 ?_)
  refine it_f (s_nil (th_nx ?_))
  refine s_ite (t_and (t_isin e5 t2 ?_))
  refine it_f (Rn.pure ?_)
  refine it_f (s_nil (th_nx ?_))
  refine hk _ E2 (RP_fine f (.inr ⟨a, rfl⟩) fun s' E3 => hd s' ?_ (E3.get E2.wf set_same (fun z => z)))
  exact (E.imp (fun _ z => z.elim)).trans (E2.trans (E3.imp (fun _ z => z.elim)))
theorem low_ne : w ≠ tLATER := by
  intro h
  have q : (76 : Nat) ∈ w.cps.toList := by rw [h]; decide +kernel
  have := hw 76 q
  omega
theorem thing_ok {lo : Nat} {v : AV} (hlo : lo ≤ m) (h0 : 0 ≤ x1) (h1 : x1 < 2147483629) (hv : v ∈ things m w x1) : (∃ x, RP s v x) ∧ Mut lo s w v := by
  have k1 : ∀ {v : AV} {x : PySem.Str} {g : Tag}, RP s v x → (∀ s, tagA s v = some g) → [Ty.list].any (isT cl g) = false → [Ty.dict].any (isT cl g) = false → [Ty.tuple].any (isT cl g) = false → (∃ x, RP s v x) ∧ Mut lo s w v := fun hr hg a b c => ⟨⟨_, hr⟩, mut_none hr hg a b c⟩
  have ev : v = .non ∨ v = .bl true ∨ v = .bl false ∨ v = .int 0 ∨ v = .str w ∨ v = .int (-x1) ∨ v = .tup [.str w, .str tIn, .str tOut, .int 1, .int 2] ∨ v = .tup [.str w, .ref m] ∨ v = .ref (m + 1) ∨ v = .ref (m + 4) ∨ v = .ref (m + 7) := by simpa [things] using hv
  rcases ev with rfl | rfl | rfl | rfl | rfl | rfl | rfl | rfl | rfl | rfl | rfl
  · exact k1 (g := .non) (x := PySem.Str.ofString "None") (fun s' _ => rfl) (fun s => rfl) rfl rfl rfl
  · exact k1 (g := .bl) (x := PySem.Str.ofString "True") (fun s' _ => rfl) (fun s => rfl) rfl rfl rfl
  · exact k1 (g := .bl) (x := PySem.Str.ofString "False") (fun s' _ => rfl) (fun s => rfl) rfl rfl rfl
  · refine k1 (g := .int) (x := toString (0 : Int)) (fun s' _ => ?_) (fun s => rfl) rfl rfl rfl
    show M.guard (decide ((0 : Int).natAbs.log2 < 1920)) (.pure (AV.str (toString (0 : Int)))) s' = _
    rw [show decide ((0 : Int).natAbs.log2 < 1920) = true by decide +kernel]
    rfl
  · refine k1 (g := .str) (x := reprText w) (fun s' _ => ?_) (fun s => rfl) rfl rfl rfl
    show M.guard (decide ((reprText w).length ≤ line)) (.pure (AV.str (reprText w))) s' = _
    have q := StrLaws.reprText_len w fun c hc => by have := hw c hc; omega
    rw [decide_eq_true (by show _ ≤ 16777216; omega)]
    rfl
  · refine k1 (g := .int) (x := toString (-x1)) (fun s' _ => ?_) (fun s => rfl) rfl rfl rfl
    show M.guard (decide ((-x1).natAbs.log2 < 1920)) (.pure (AV.str (toString (-x1)))) s' = _
    have q : (-x1).natAbs.log2 < 1920 := by
      by_cases z : (-x1).natAbs = 0
      · rw [z]; decide +kernel
      · have := (Nat.log2_lt z (k := 31)).mpr (by omega)
        omega
    rw [decide_eq_true q]
    rfl
  · have hr := RP_fine (s := s) (fine_t5 hw hl) (.inl ⟨_, rfl⟩) (v := .tup [.str w, .str tIn, .str tOut, .int 1, .int 2]) fun s' _ => rdx_tup (mapO_cons rfl (mapO_cons rfl (mapO_cons rfl (mapO_cons rfl (mapO_cons rfl mapO_nil)))))
    exact ⟨⟨_, hr⟩, mut_tup5 hr (by simp)⟩
  · refine ⟨⟨_, RP_fine (fine_t2 hw hl) (.inl ⟨_, rfl⟩) fun s' E => rdx_tup (mapO_cons rfl (mapO_cons (rd_l (E.get ws B.g0 (fun z => z))) mapO_nil))⟩, ?_⟩
    have la := ws.lt B.g0
    refine ⟨(· = m), (PyData.tuple [.str w, .list [.str w, .str tLater]]).shown, fun b hb => by subst hb; exact ⟨hlo, la, no_exc B.g0⟩, fun C env s1 fin P e3 e5 E hk => ?_⟩
    have g1 := E.get ws B.g0 (fun z => z)
    have E2 : Ext (· = m) s1 (s1.set m (AO.lst ([AV.str w] ++ [AV.str tLater]))) := Ext.set E.wf (E.wf.lt g1) rfl
    refine s_ite (t_isin (g := .tup) e5 rfl ?_)
    refine it_f (s_nil (th_nx ?_))
    refine s_ite (t_isin (g := .tup) e5 rfl ?_)
    refine it_f (s_nil (th_nx ?_))
    refine s_ite (t_and (t_isin (g := .tup) e5 rfl ?_))
    refine it_t (t_cmp (v_bi (l_cons (v_var e5 (l_nil (Rn.of (v := .int 2) (s' := s1) rfl (v_int (o_eq (Rn.of (v := true) (s' := s1) rfl ?_)))))))))
    refine it_t (s_app (v_idx (v_var e5 (v_int (Rn.of (v := .ref m) (s' := s1) rfl ⟨m, _, rfl, g1, by show 1 < line; decide, s_nil (th_nx ?_)⟩)))))
    exact hk _ E2 (RP_fine (fine_t2b hw hl) (.inl ⟨_, rfl⟩) fun s' E3 => rdx_tup (mapO_cons rfl (mapO_cons (rd_ll (E3.get E2.wf set_same (fun z => z))) mapO_nil)))
  · have rD : ∀ s' : St, s'.g (m + 2) = some (.lst [.str w]) → (rdx s' 19 (.ref (m + 2))).map (fun d => (rdk (Sum.inr w), d)) = some (PyData.str w, PyData.list [.str w]) := fun s' h => by
      rw [rd_l h]
      rfl
    refine ⟨⟨_, RP_fine (fine_d hw hl) (.inr ⟨_, rfl⟩) fun s' E => rdx_dic (E.get ws B.g1 (fun z => z)) (mapO_cons (rD s' (E.get ws B.g2 (fun z => z))) mapO_nil)⟩, ?_⟩
    have la1 := ws.lt B.g1
    have la2 := ws.lt B.g2
    refine ⟨(fun a => a = m + 1 ∨ a = m + 2), (PyData.dict [(.str w, .list [.str w, .str tLater]), (.str tLATER, .int 1)]).shown, fun b hb => by
      rcases hb with rfl | rfl
      · exact ⟨by omega, la1, no_excD B.g1⟩
      · exact ⟨by omega, la2, no_exc B.g2⟩, fun C env s1 fin P e3 e5 E hk => ?_⟩
    have g1 := E.get ws B.g1 (fun z => z)
    have g2 := E.get ws B.g2 (fun z => z)
    have tg : ∀ s2 : St, ∀ ys, s2.g (m + 1) = some (.dic ys) → tagA s2 (.ref (m + 1)) = some .dic := by
      intro s2 ys hh
      change (match s2.g (m + 1) with
        | some (.lst _) => some Tag.lst
        | some (.flst _) => some Tag.lst
        | some (.dic _) => some Tag.dic
        | some (.exc c _) => some (Tag.cls c)
        | some (.exn c) => some (Tag.cls c)
        | some (.ins c _) => some (Tag.cls c)
        | none => none) = _
      rw [hh]
    have hne : w ≠ tLATER := low_ne hw hl B ws
    have E2 : Ext (fun a => a = m + 1 ∨ a = m + 2) s1 (s1.set (m + 2) (AO.lst ([AV.str w] ++ [AV.str tLater]))) := Ext.set E.wf (E.wf.lt g2) (.inr rfl)
    have h1' : (s1.set (m + 2) (AO.lst ([AV.str w] ++ [AV.str tLater]))).g (m + 1) = some (.dic [(Sum.inr w, AV.ref (m + 2))]) := (set_other (by omega)).trans g1
    have E3 : Ext (fun a => a = m + 1 ∨ a = m + 2) (s1.set (m + 2) (AO.lst ([AV.str w] ++ [AV.str tLater]))) ((s1.set (m + 2) (AO.lst ([AV.str w] ++ [AV.str tLater]))).set (m + 1) (.dic (putD [(Sum.inr w, AV.ref (m + 2))] (Sum.inr tLATER) (.int 1)))) := Ext.set E2.wf (E2.wf.lt h1') (.inl rfl)
    have hput : putD [(Sum.inr w, AV.ref (m + 2))] (Sum.inr tLATER) (.int 1) = [(Sum.inr w, AV.ref (m + 2)), (Sum.inr tLATER, .int 1)] := by
      have hk : (decide ((Sum.inr w : L2.Key) = Sum.inr tLATER)) = false := decide_eq_false fun h => hne (Sum.inr.inj h)
      simp only [putD, List.any_cons, List.any_nil, hk, Bool.or_false, Bool.false_eq_true, if_false]
      rfl
    refine s_ite (t_isin e5 (tg s1 _ g1) ?_)
    refine it_f (s_nil (th_nx ?_))
    refine s_ite (t_isin e5 (tg s1 _ g1) ?_)
    refine it_t (s_app (v_idx (v_var e5 (v_var e3 (Rn.of (v := .ref (m + 2)) (s' := s1) ?_ ⟨m + 2, _, rfl, g2, by show 1 < line; decide, ?_⟩)))))
    · change (match s1.g (m + 1) with
        | some (.dic kvs) => M.opt (valA kvs (Sum.inr w)) s1
        | _ => .bad) = _
      rw [g1]
      show M.opt (if (Sum.inr w : L2.Key) = Sum.inr w then some (AV.ref (m + 2)) else none) s1 = _
      rw [if_pos rfl]
      rfl
    refine s_sub (v_int (v_var e5 (v_str (Rn.of (v := ()) (s' := (s1.set (m + 2) (AO.lst ([AV.str w] ++ [AV.str tLater]))).set (m + 1) (.dic (putD [(Sum.inr w, AV.ref (m + 2))] (Sum.inr tLATER) (.int 1)))) ?_ (s_nil (th_nx ?_))))))
    · change (match (s1.set (m + 2) (AO.lst ([AV.str w] ++ [AV.str tLater]))).g (m + 1) with
        | some (.dic kvs) => M.guard (decide (kvs.length < line)) (fun s => Out.ok () (s.set (m + 1) (AO.dic (putD kvs (Sum.inr tLATER) (AV.int 1))))) (s1.set (m + 2) (AO.lst ([AV.str w] ++ [AV.str tLater])))
        | _ => .bad) = _
      rw [h1']
      rfl
    have h1'' : ((s1.set (m + 2) (AO.lst ([AV.str w] ++ [AV.str tLater]))).set (m + 1) (.dic (putD [(Sum.inr w, AV.ref (m + 2))] (Sum.inr tLATER) (.int 1)))).g (m + 1) = some (.dic [(Sum.inr w, AV.ref (m + 2)), (Sum.inr tLATER, .int 1)]) := by rw [← hput]; exact set_same
    have h2'' : ((s1.set (m + 2) (AO.lst ([AV.str w] ++ [AV.str tLater]))).set (m + 1) (.dic (putD [(Sum.inr w, AV.ref (m + 2))] (Sum.inr tLATER) (.int 1)))).g (m + 2) = some (.lst [.str w, .str tLater]) := (set_other (by omega)).trans set_same
    refine s_ite (t_and (t_isin e5 (tg _ _ h1'') ?_))
    refine it_f (Rn.pure ?_)
    refine it_f (s_nil (th_nx ?_))
    refine hk _ (E2.trans E3) (RP_fine (fine_db hw hl) (.inr ⟨_, rfl⟩) fun s' E4 => rdx_dic (E4.get E3.wf h1'' (fun z => z)) (mapO_cons ?_ (mapO_cons rfl mapO_nil)))
    have q : (rdx s' 19 (.ref (m + 2))).map (fun d => (rdk (Sum.inr w), d)) = some (PyData.str w, PyData.list [.str w, .str tLater]) := by
      rw [rd_ll (E4.get E3.wf h2'' (fun z => z))]
      rfl
    exact q
  · exact ⟨⟨_, RP_fine (fine_l1 hw hl) (.inr ⟨_, rfl⟩) fun s' E => rd_l (E.get ws B.g4 (fun z => z))⟩, mut_lst hw hl B ws B.g4 (by omega) (by show 1 < line; decide) (fine_l2 hw hl) fun s' E g => rd_ll g⟩
  · have rn : ∀ s' : St, s'.g (m + 5) = some (.lst [.str w]) → s'.g (m + 6) = some (.dic [(Sum.inr (Str.ofString "out"), AV.str w)]) → rdx s' 19 (.ref (m + 5)) = some (.list [.str w]) ∧ rdx s' 19 (.ref (m + 6)) = some (.dict [(.str tOut, .str w)]) := fun s' h5 h6 => ⟨rd_l h5, rdx_dic h6 (mapO_cons rfl mapO_nil)⟩
    refine ⟨⟨_, RP_fine (fine_n hw hl) (.inr ⟨_, rfl⟩) fun s' E => ?_⟩, mut_lst hw hl B ws B.g7 (by omega) (by show 2 < line; decide) (fine_nb hw hl) fun s' E g => ?_⟩
    · obtain ⟨r1, r2⟩ := rn s' (E.get ws B.g5 (fun z => z)) (E.get ws B.g6 (fun z => z))
      exact rdx_lst (E.get ws B.g7 (fun z => z)) (mapO_cons r1 (mapO_cons r2 mapO_nil))
    · obtain ⟨r1, r2⟩ := rn s' (E.get ws B.g5 (fun z => by omega)) (E.get ws B.g6 (fun z => by omega))
      exact rdx_lst g (mapO_cons r1 (mapO_cons r2 (mapO_cons rfl mapO_nil)))
end
end K01
end
section
set_option Elab.async false
set_option linter.all false
set_option maxRecDepth 100000
set_option maxHeartbeats 1000000
/-! K01j: one turn of the law. -/
namespace K01
open MP PySem
/-- a list of all 27 errors with this value -/
def Have (s : St) (b : Nat) (v : AV) : Prop := ∃ es, s.g b = some (.lst es) ∧ Made s v es all27
theorem Have.ext {X : Nat → Prop} {s s' : St} {b : Nat} {v : AV} (h : Have s b v) (w : Wf s) (E : Ext X s s') (hb : ¬ X b) (hx : ∀ a c v, s.g a = some (.exc c v) → ¬ X a) : Have s' b v := by
  obtain ⟨es, h1, h2⟩ := h
  exact ⟨es, E.get w h1 hb, h2.ext w E hx⟩
theorem Have.non {s s' : St} {b : Nat} {v : AV} (h : Have s b v) (w : Wf s) (E : Ext Non s s') : Have s' b v := h.ext w E (fun z => z) (fun _ _ _ _ z => z)
theorem t_right {n : Nat} {args : E} {env : MP.Env} {s : St} {P : Bool → St → Prop} (h : Rn ((den cl (callN cl ds (n + 2)) args).l env s) fun vs s1 => ∃ b x v, vs = [.ref b, .str x] ∧ Wf s1 ∧ Have s1 b v ∧ RP s1 v x ∧ ∀ s2, Ext Non s1 s2 → P false s2) : Rn ((den cl (callN cl ds (n + 2)) (.not (.call 11 args))).t env s) P := by
  refine t_not (t_val (fun _ => rfl) (v_call (h.mono fun vs s1 ⟨b, x, v, e, w, ⟨es, h1, h2⟩, hr, hp⟩ => ?_)))
  subst e
  refine (right_ok n s1 b es v x w h1 h2 hr).mono fun r s2 ⟨er, E⟩ => ?_
  subst er
  exact Rn.of (v := true) (s' := s2) rfl (hp s2 E)
theorem Ext.low {s s' : St} (E : Ext (fun a => s.n ≤ a) s s') : Ext Non s s' := ⟨E.le, fun a h _ => E.keep a h (by omega), E.wf⟩
theorem d_put {a : Nat} {vs : List AV} {kvs : List (L2.Key × AV)} {s : St} {P : AV → St → Prop} (h : s.g a = some (.dic [])) (hk : pairsA vs = some kvs) (hl : kvs.length ≤ 15) (hp : P (.ref a) (s.set a (.dic (mergeA [] kvs)))) : Rn (dicP (.ref a) vs s) P := by
  refine Rn.of (v := .ref a) (s' := s.set a (.dic (mergeA [] kvs))) ?_ hp
  change (match s.g a with
    | some (.dic []) => match pairsA vs with
      | some kvs => M.guard (decide (kvs.length ≤ 15)) (fun s => Out.ok (AV.ref a) (s.set a (.dic (mergeA [] kvs)))) s
      | none => .bad
    | _ => .bad) = _
  rw [h]
  show (match pairsA vs with
      | some kvs => M.guard (decide (kvs.length ≤ 15)) (fun s => Out.ok (AV.ref a) (s.set a (.dic (mergeA [] kvs)))) s
      | none => .bad) = _
  rw [hk]
  show M.guard (decide (kvs.length ≤ 15)) (fun s => Out.ok (AV.ref a) (s.set a (.dic (mergeA [] kvs)))) s = _
  rw [decide_eq_true hl]
  rfl
def lawBody : S := match d12.body with
  | .for_ _ _ b _ => b
  | _ => .nil
/-- what is built, state by state -/
def b1 (s : St) (w : PySem.Str) : St := s.push (.lst [.str w])
def b2 (s : St) (w : PySem.Str) : St := (b1 s w).push (.dic [])
def b3 (s : St) (w : PySem.Str) : St := (b2 s w).push (.lst [.str w])
def b4 (s : St) (w : PySem.Str) : St := (b3 s w).set (s.n + 1) (.dic [(Sum.inr w, AV.ref (s.n + 2))])
def plain (m : Nat) (w : PySem.Str) (x1 : Int) : List AV := (things m w x1).take 9
def b5 (s : St) (w : PySem.Str) (x1 : Int) : St := (b4 s w).push (.lst (plain s.n w x1))
def c1 (s : St) (m : Nat) (w : PySem.Str) : St := s.push (.lst [.str w])
def c2 (s : St) (m : Nat) (w : PySem.Str) : St := (c1 s m w).push (.lst [.str w])
def c3 (s : St) (m : Nat) (w : PySem.Str) : St := (c2 s m w).push (.dic [])
def c4 (s : St) (m : Nat) (w : PySem.Str) : St := (c3 s m w).set (m + 6) (.dic [(Sum.inr tOut, AV.str w)])
def c5 (s : St) (m : Nat) (w : PySem.Str) : St := (c4 s m w).push (.lst [.ref (m + 5), .ref (m + 6)])
def c6 (s : St) (m : Nat) (w : PySem.Str) : St := (c5 s m w).push (.lst [.ref (m + 4), .ref (m + 7)])
def c7 (s : St) (m : Nat) (w : PySem.Str) (x1 : Int) : St := (c6 s m w).push (.lst (things m w x1))
def b9 (s : St) (w : PySem.Str) (x1 : Int) : St := c7 (b5 s w x1) s.n w x1
theorem b9_ext {s : St} {w : PySem.Str} {x1 : Int} (ws : Wf s) : Ext Non s (b9 s w x1) := by
  refine Ext.low ?_
  have e1 : Ext (fun a => s.n ≤ a) s (b1 s w) := Ext.push ws
  have e2 : Ext (fun a => s.n ≤ a) (b1 s w) (b2 s w) := Ext.push e1.wf
  have e3 : Ext (fun a => s.n ≤ a) (b2 s w) (b3 s w) := Ext.push e2.wf
  have e4 : Ext (fun a => s.n ≤ a) (b3 s w) (b4 s w) := Ext.set e3.wf (by show s.n + 1 < s.n + 1 + 1 + 1; omega) (by omega)
  have e5 : Ext (fun a => s.n ≤ a) (b4 s w) (b5 s w x1) := Ext.push e4.wf
  have f1 : Ext (fun a => s.n ≤ a) (b5 s w x1) (c1 (b5 s w x1) s.n w) := Ext.push e5.wf
  have f2 : Ext (fun a => s.n ≤ a) _ (c2 (b5 s w x1) s.n w) := Ext.push f1.wf
  have f3 : Ext (fun a => s.n ≤ a) _ (c3 (b5 s w x1) s.n w) := Ext.push f2.wf
  have f4 : Ext (fun a => s.n ≤ a) _ (c4 (b5 s w x1) s.n w) := Ext.set f3.wf (by show s.n + 6 < s.n + 1 + 1 + 1 + 1 + 1 + 1 + 1; omega) (by omega)
  have f5 : Ext (fun a => s.n ≤ a) _ (c5 (b5 s w x1) s.n w) := Ext.push f4.wf
  have f6 : Ext (fun a => s.n ≤ a) _ (c6 (b5 s w x1) s.n w) := Ext.push f5.wf
  have f7 : Ext (fun a => s.n ≤ a) _ (c7 (b5 s w x1) s.n w x1) := Ext.push f6.wf
  exact e1.trans (e2.trans (e3.trans (e4.trans (e5.trans (f1.trans (f2.trans (f3.trans (f4.trans (f5.trans (f6.trans f7))))))))))
theorem b9_built {s : St} {w : PySem.Str} {x1 : Int} : Built (b9 s w x1) s.n w := by
  refine ⟨?_, ?_, ?_, ?_, ?_, ?_, ?_⟩ <;> simp [b9, c7, c6, c5, c4, c3, c2, c1, b5, b4, b3, b2, b1, St.push, St.set, Nat.add_assoc]
theorem b9_list {s : St} {w : PySem.Str} {x1 : Int} : (b9 s w x1).g (s.n + 9) = some (.lst (things s.n w x1)) := by
  simp [b9, c7, c6, c5, c4, c3, c2, c1, b5, b4, b3, b2, b1, St.push, St.set, Nat.add_assoc]
theorem built_ext {X : Nat → Prop} {s s' : St} {m : Nat} {w : PySem.Str} (B : Built s m w) (ws : Wf s) (E : Ext X s s') (h : ∀ a, m ≤ a → ¬ X a) : Built s' m w :=
  ⟨E.get ws B.g0 (h _ (by omega)), E.get ws B.g1 (h _ (by omega)), E.get ws B.g2 (h _ (by omega)), E.get ws B.g4 (h _ (by omega)), E.get ws B.g5 (h _ (by omega)), E.get ws B.g6 (h _ (by omega)), E.get ws B.g7 (h _ (by omega))⟩
local macro_rules | `(tactic| walk_at "mgo") => `(tactic| (repeat (first
  | refine v_var rfl ?_ | refine v_int ?_ | refine v_str ?_ | refine v_non ?_ | refine v_bl ?_ | refine l_cons ?_ | refine l_nil ?_ | refine v_tup ?_ | refine v_lst ?_ | refine v_dic ?_)))
theorem turn_ok (s : St) (z a : Nat) (k x1 : Int) (w0 : Wf s) (p0 : Purse s a k x1) (hk : k < 2 ^ 39) (h0 : 0 ≤ x1) (h1 : x1 < 2147483629) (e2 e3 e4 e5 e6 e7 e8 e9 e10 : Option AV) :
    Rn (MP.exec cl (callN cl ds 7) lawBody [some (.ref z), some (.ref a), e2, e3, e4, e5, e6, e7, e8, e9, e10] s) fun f s' => (∃ e3 e4 e5 e6 e7 e8 e9, f = .nx [some (.ref z), some (.ref a), e2, e3, e4, e5, e6, e7, e8, e9, e10]) ∧ Ext (· = a) s s' ∧ Purse s' a (k + 11) x1 := by
  refine s_asg1 (v_call (l_cons (v_var rfl (l_nil ?_))))
  refine (word_ok 4 s a k x1 w0 p0 (by omega)).mono fun v s1 ⟨E1, p1, w, ev, hw, hl⟩ => ?_
  subst ev
  have wf1 := E1.wf
  obtain ⟨x0, x2, x3, ep, hp⟩ := p1.ex
  have la : a < s1.n := wf1.lt ep
  refine s_asg1 (v_lst ?_)
  walk_at "mgo"
  refine v_neg (v_idx (v_var rfl (v_int (ix_lst ep rfl (Rn.ok ?_)))))
  walk_at "mgo"
  refine ⟨by show 5 ≤ line; decide, ?_⟩
  walk_at "mgo"
  refine ⟨by show 1 ≤ line; decide, ?_⟩
  walk_at "mgo"
  refine ⟨by show 2 ≤ line; decide, ?_⟩
  walk_at "mgo"
  refine ⟨by show 1 ≤ line; decide, ?_⟩
  refine l_nil (d_put (kvs := [(Sum.inr w, AV.ref (s1.n + 2))]) ?_ rfl (by show 1 ≤ 15; decide) ?_)
  · exact (push_old (by show s1.n + 1 < s1.n + 1 + 1; omega)).trans push_new
  walk_at "mgo"
  refine ⟨by show 9 ≤ line; decide, ?_⟩
  change Rn (MP.exec cl (callN cl ds 7) _ _ (b5 s1 w x1)) _
  refine s_asg1 (v_call (l_cons (v_var rfl (l_cons (v_bin (v_var rfl (v_lst ?_)))))))
  walk_at "mgo"
  refine ⟨by show 1 ≤ line; decide, ?_⟩
  walk_at "mgo"
  refine ⟨by show 1 ≤ line; decide, ?_⟩
  walk_at "mgo"
  refine d_put (kvs := [(Sum.inr tOut, AV.str w)]) push_new rfl (by show 1 ≤ 15; decide) ?_
  walk_at "mgo"
  refine ⟨by show 2 ≤ line; decide, ?_⟩
  walk_at "mgo"
  refine ⟨by show 2 ≤ line; decide, ?_⟩
  change Rn (opB .add (.ref (s1.n + 3)) (.ref (s1.n + 8)) (c6 (b5 s1 w x1) s1.n w)) _
  have g3 : (c6 (b5 s1 w x1) s1.n w).g (s1.n + 3) = some (.lst (plain s1.n w x1)) := by
    simp [c6, c5, c4, c3, c2, c1, b5, b4, b3, b2, b1, St.push, St.set, Nat.add_assoc]
  refine o_cat (x := plain s1.n w x1) (y := [.ref (s1.n + 4), .ref (s1.n + 7)]) g3 push_new (by show 11 ≤ line; decide) ?_
  walk_at "mgo"
  change Rn (callN cl ds 7 4 [.ref a, .ref (s1.n + 9)] (b9 s1 w x1)) _
  have E9 : Ext Non s1 (b9 s1 w x1) := b9_ext wf1
  have p9 : Purse (b9 s1 w x1) a (k + 10) x1 := p1.ext wf1 E9 (fun z => z)
  refine (one_of_ok 4 _ a _ (k + 10) x1 (things s1.n w x1) E9.wf p9 (by omega) b9_list (by show 0 < 11; decide) (by show 11 < _; decide) (by omega)).mono fun v s2 ⟨E2, p2, hv⟩ => ?_
  have wf2 := E2.wf
  have B2 : Built s2 s1.n w := built_ext b9_built E9.wf E2 (fun a h => by omega)
  obtain ⟨⟨x, hx⟩, X, y, hX, hmut⟩ := thing_ok (lo := s1.n) hw hl B2 wf2 (Nat.le_refl _) h0 h1 hv
  refine s_asg1 (v_bi (l_cons (v_var rfl (l_nil (Rn.of (hx s2 (Ext.refl wf2)) ?_)))))
  refine s_par (l_cons (v_call (l_cons (v_var rfl (l_nil ?_)))))
  refine (first_ok 6 s2 v wf2).mono fun r s3 ⟨f1, es1, er, lf1, hf1, hm1, E3⟩ => ?_
  subst er
  refine l_cons (v_call (l_cons (v_var rfl (l_nil ?_))))
  refine (called_ok 6 s3 v E3.wf).mono fun r s4 ⟨f2, es2, er, lf2, hf2, hm2, E4⟩ => ?_
  subst er
  refine l_cons (v_call (l_cons (v_tup (l_cons (v_str (l_cons (v_var rfl (l_nil ⟨by show 2 ≤ line; decide, l_nil ?_⟩))))))))
  refine (first_ok 6 s4 _ E4.wf).mono fun r s5 ⟨f3, es3, er, lf3, hf3, hm3, E5⟩ => ?_
  subst er
  refine l_nil ⟨_, rfl, ?_⟩
  have H1 : Have s5 f1 v := (Have.non ⟨es1, hf1, hm1⟩ E3.wf (E4.trans E5))
  have H2 : Have s5 f2 v := (Have.non ⟨es2, hf2, hm2⟩ E4.wf E5)
  have H3 : Have s5 f3 (.tup [.str tLater, .str w]) := ⟨es3, hf3, hm3⟩
  have E25 : Ext Non s2 s5 := E3.trans (E4.trans E5)
  refine s_ite (t_or (t_right (n := 5) (l_cons (v_call (l_nil ?_)))))
  refine (bare_ok 6 s5 E5.wf).mono fun r s6 ⟨f0, es0, er, lf0, hf0, hm0, E6⟩ => ?_
  subst er
  refine l_cons (v_str (l_nil ⟨f0, _, .non, rfl, E6.wf, ⟨es0, hf0, hm0⟩, fun s' _ => rfl, fun s7 E7 => ?_⟩))
  refine it_f (t_right (n := 5) ?_)
  have E57 := E6.trans E7
  have hl8 := RP_fine (s := s7) (fine_lat hw hl) (.inl ⟨_, rfl⟩) (v := .tup [.str tLater, .str w]) fun s' _ => rdx_tup (mapO_cons rfl (mapO_cons rfl mapO_nil))
  refine l_cons (v_var rfl (l_cons (v_bi (l_cons (v_tup (l_cons (v_str (l_cons (v_var rfl (l_nil ⟨by show 2 ≤ line; decide, l_nil (Rn.of (hl8 s7 (Ext.refl E7.wf)) (l_nil ?_))⟩))))))))))
  refine ⟨f3, _, _, rfl, E7.wf, H3.non E5.wf E57, hl8, fun s8 E8 => ?_⟩
  refine it_f (s_nil (th_nx ?_))
  have E58 := E57.trans E8
  refine s_ite (t_or (t_right (n := 5) (l_cons (v_var rfl (l_cons (v_var rfl (l_nil ⟨f1, _, v, rfl, E8.wf, H1.non E5.wf E58, hx.ext (E25.trans E58), fun s9 E9 => ?_⟩)))))))
  refine it_f (t_right (n := 5) (l_cons (v_var rfl (l_cons (v_var rfl (l_nil ⟨f2, _, v, rfl, E9.wf, H2.non E5.wf (E58.trans E9), hx.ext (E25.trans (E58.trans E9)), fun s10 E10 => ?_⟩))))))
  refine it_f (s_nil (th_nx ?_))
  have E510 := E58.trans (E9.trans E10)
  have E210 := E25.trans E510
  refine hmut _ _ s10 _ _ rfl rfl E210 fun s11 E11 hy => ?_
  have X1 : ∀ b, s2.n ≤ b → ¬ X b := fun b hb hx => by
    have := (hX b hx).2.1
    omega
  have X2 : ∀ b c u, s10.g b = some (.exc c u) → ¬ X b := fun b c u hb hx => by
    obtain ⟨_, q1, q2⟩ := hX b hx
    rw [E210.keep b q1 (fun z => z)] at hb
    exact q2 c u hb
  have l23 : s2.n ≤ s3.n := E3.le
  have K1 : Have s11 f1 v := (H1.non E5.wf E510).ext E10.wf E11 (X1 _ lf1) X2
  have K2 : Have s11 f2 v := (H2.non E5.wf E510).ext E10.wf E11 (X1 _ (by omega)) X2
  refine s_ite (t_or (t_right (n := 5) (l_cons (v_var rfl (l_cons (v_bi (l_cons (v_var rfl (l_nil (Rn.of (hy s11 (Ext.refl E11.wf)) (l_nil ⟨f1, _, v, rfl, E11.wf, K1, hy, fun s12 E12 => ?_⟩)))))))))))
  refine it_f (t_right (n := 5) (l_cons (v_var rfl (l_cons (v_bi (l_cons (v_var rfl (l_nil (Rn.of (hy s12 E12) (l_nil ⟨f2, _, v, rfl, E12.wf, K2.non E11.wf E12, hy.ext E12, fun s13 E13 => ?_⟩))))))))))
  refine it_f (s_nil (th_nx (s_nil ?_)))
  have Fa : Ext (fun b => b = a ∨ s1.n ≤ b) s1 (b9 s1 w x1) := (b9_ext wf1).imp fun _ z => z.elim
  have Fb : Ext (fun b => b = a ∨ s1.n ≤ b) (b9 s1 w x1) s2 := E2.imp fun _ z => Or.inl z
  have Fc : Ext (fun b => b = a ∨ s1.n ≤ b) s2 s10 := E210.imp fun _ z => z.elim
  have Fd : Ext (fun b => b = a ∨ s1.n ≤ b) s10 s11 := E11.imp fun b z => Or.inr (hX b z).1
  have Fe : Ext (fun b => b = a ∨ s1.n ≤ b) s11 s13 := (E12.trans E13).imp fun _ z => z.elim
  have F : Ext (fun b => b = a ∨ s1.n ≤ b) s1 s13 := Fa.trans (Fb.trans (Fc.trans (Fd.trans Fe)))
  refine ⟨⟨_, _, _, _, _, _, _, rfl⟩, ⟨Nat.le_trans E1.le F.le, fun b hb hn => ?_, E13.wf⟩, ?_⟩
  · have l1 := E1.le
    exact (F.keep b (by omega) (by rintro (q | q); exact hn q; omega)).trans (E1.keep b hb hn)
  · have Gc : Ext (fun b => s1.n ≤ b) s2 s10 := E210.imp fun _ z => z.elim
    have Gd : Ext (fun b => s1.n ≤ b) s10 s11 := E11.imp fun b z => (hX b z).1
    have Ge : Ext (fun b => s1.n ≤ b) s11 s13 := (E12.trans E13).imp fun _ z => z.elim
    have G : Ext (fun b => s1.n ≤ b) s2 s13 := Gc.trans (Gd.trans Ge)
    have q := p2.ext wf2 G (by omega)
    rw [show k + 11 = k + 10 + 1 by omega]
    exact q
end K01
end
section
set_option Elab.async false
set_option linter.all false
set_option maxRecDepth 100000
set_option maxHeartbeats 1000000
/-! K01k: the law. -/
namespace K01
open MP PySem
theorem tag_exn {s : St} {a c : Nat} (h : s.g a = some (.exn c)) : tagA s (.ref a) = some (.cls c) := by
  change (match s.g a with
        | some (.lst _) => some Tag.lst
        | some (.flst _) => some Tag.lst
        | some (.dic _) => some Tag.dic
        | some (.exc c _) => some (Tag.cls c)
        | some (.exn c) => some (Tag.cls c)
        | some (.ins c _) => some (Tag.cls c)
        | none => none) = _
  rw [h]
def lawRest : S := match d12.body with
  | .for_ _ _ _ r => r
  | _ => .nil
theorem code28 : [28, 29].map codeOf = [[27], [28]] := by decide +kernel
theorem code0 : codeOf 0 = [] := by decide +kernel
theorem rest_ok (s : St) (w : Wf s) (e0 e1 e2 e3 e4 e5 e6 e7 e8 e9 e10 : Option AV) : Rn (MP.exec cl (callN cl ds 7) lawRest [e0, e1, e2, e3, e4, e5, e6, e7, e8, e9, e10] s) fun f _ => f = .rt (.bl true) := by
  refine s_asg1 (v_lst (l_cons (v_mk (l_nil (Rn.of (v := .ref s.n) (s' := s.push (.exn 28)) rfl (l_cons (v_mk (l_nil (Rn.of (v := .ref (s.n + 1)) (s' := (s.push (.exn 28)).push (.exn 29)) rfl (l_nil ⟨by show 2 ≤ line; decide, ?_⟩))))))))))
  generalize ht : ((s.push (.exn 28)).push (.exn 29)).push (.lst [.ref s.n, .ref (s.n + 1)]) = t
  have wt : Wf t := by rw [← ht]; exact w.push.push.push
  have g0 : t.g s.n = some (.exn 28) := by rw [← ht]; simp [St.push, Nat.add_assoc]
  have g1 : t.g (s.n + 1) = some (.exn 29) := by rw [← ht]; simp [St.push, Nat.add_assoc]
  have g2 : t.g (s.n + 2) = some (.lst [.ref s.n, .ref (s.n + 1)]) := by rw [← ht]; simp [St.push, Nat.add_assoc]
  change Rn (MP.exec cl (callN cl ds 7) _ [e0, e1, some (.ref (s.n + 2)), e3, e4, e5, e6, e7, e8, e9, e10] t) _
  refine s_ite (t_cmp (v_lc (i_val (fun _ => rfl) (v_var rfl (iter_lst (lstOf_lst g2) ?_)))))
  refine lcA_inv [.ref s.n, .ref (s.n + 1)] (fun i vs s2 => Ext Non t s2 ∧ Objs s2 vs ((([28, 29].take i).map codeOf).map nums)) (lst_len (lstOf_lst g2)) ⟨Ext.refl wt, trivial⟩ (fun i vs s2 ⟨E, _⟩ => lst_item (lstOf_lst (E.get wt g2 (fun z => z)))) (fun i y vs s3 hx ⟨E3, ho⟩ => ?_) (fun vs s1 ⟨E1, ho⟩ => ?_)
  · have key : ∀ a c, y = .ref a → t.g a = some (.exn c) → [28, 29][i]? = some c → Rn (lcE ((den cl (callN cl ds 7) (.call 9 (.cons (.var 10) .nil))).v) [10] ((den cl (callN cl ds 7) .nil).t) [e0, e1, some (.ref (s.n + 2)), e3, e4, e5, e6, e7, e8, e9, e10] y s3) fun r s' => Ext Non t s' ∧ Objs s' (vs ++ r.toList) ((([28, 29].take (i + 1)).map codeOf).map nums) := by
      intro a c ey ha hc
      subst ey
      refine lcE_nil rfl (v_call (l_cons (v_var rfl (l_nil ?_))))
      refine (code_ok 6 s3 a c E3.wf (tag_exn (E3.get wt ha (fun z => z)))).mono fun r s4 ⟨k, er, hk, E4⟩ => ?_
      refine ⟨E3.trans E4, ?_⟩
      rw [List.take_add_one, hc, List.map_append, List.map_append]
      exact (ho.ext E3.wf E4).app ⟨⟨k, er, hk⟩, trivial⟩
    match i, hx with
    | 0, hx => exact key s.n 28 (by cases hx; rfl) g0 rfl
    | 1, hx => exact key (s.n + 1) 29 (by cases hx; rfl) g1 rfl
    | j + 2, hx => cases hx
  have ho : Objs s1 vs (([28, 29].map codeOf).map nums) := ho
  rw [code28] at ho
  have lv : vs.length = 2 := ho.len
  refine ⟨by rw [lv]; decide, ?_⟩
  have F1 : Ext Non s1 (s1.push (.lst vs)) := Ext.push E1.wf
  refine v_lst (l_cons (v_lst (l_cons (v_int (l_nil ⟨by show 1 ≤ line; decide, l_cons (v_lst (l_cons (v_int (l_nil ⟨by show 1 ≤ line; decide, l_nil ⟨by show 2 ≤ line; decide, ?_⟩⟩))))⟩)))))
  have G : Ext Non s1 ((((s1.push (.lst vs)).push (.lst [.int 27])).push (.lst [.int 28])).push (.lst [.ref (s1.n + 1), .ref (s1.n + 2)])) := F1.trans ((Ext.push F1.wf).trans ((Ext.push F1.wf.push).trans (Ext.push F1.wf.push.push)))
  generalize hu : ((((s1.push (.lst vs)).push (.lst [.int 27])).push (.lst [.int 28])).push (.lst [.ref (s1.n + 1), .ref (s1.n + 2)])) = u at G
  have h0 : u.g s1.n = some (.lst vs) := by rw [← hu]; simp [St.push, Nat.add_assoc]
  have h1 : u.g (s1.n + 1) = some (.lst [.int 27]) := by rw [← hu]; simp [St.push, Nat.add_assoc]
  have h2 : u.g (s1.n + 2) = some (.lst [.int 28]) := by rw [← hu]; simp [St.push, Nat.add_assoc]
  have h3 : u.g (s1.n + 3) = some (.lst [.ref (s1.n + 1), .ref (s1.n + 2)]) := by rw [← hu]; simp [St.push, Nat.add_assoc]
  change Rn (opC .ne (.ref s1.n) (.ref (s1.n + 3)) ((((s1.push (.lst vs)).push (.lst [.int 27])).push (.lst [.int 28])).push (.lst [.ref (s1.n + 1), .ref (s1.n + 2)]))) _
  rw [hu]
  have r1 : rd u 60 (.ref s1.n) = some (.list ([[27], [28]].map numsD)) := by
    rw [rd_lst h0, rd_objs (ho.ext E1.wf G)]
    rfl
  have r2 : rd u 60 (.ref (s1.n + 3)) = some (.list ([[27], [28]].map numsD)) := by
    have q : Objs u [.ref (s1.n + 1), .ref (s1.n + 2)] ([[27], [28]].map nums) := ⟨⟨_, rfl, h1⟩, ⟨_, rfl, h2⟩, trivial⟩
    rw [rd_lst h3, rd_objs q]
    rfl
  refine o_ne (eq_data r1 r2 (by decide +kernel) (by decide +kernel) ?_)
  rw [show PyData.eqv (.list ([[27], [28]].map numsD)) (.list ([[27], [28]].map numsD)) = true by decide +kernel]
  refine it_f (s_nil (th_nx ?_))
  have Eu : Ext Non t u := E1.trans G
  have k2 := Eu.get wt g2 (fun z => z)
  refine s_exp (v_meth (v_var rfl (Rn.of (v := ()) (s' := u) ?_ (l_cons (v_mk (l_nil (Rn.of (v := .ref u.n) (s' := u.push (.exn 0)) rfl (l_nil ?_))))))))
  · change (match lstOf u (.ref (s.n + 2)) with
    | some _ => Out.ok () u
    | none => .bad) = _
    rw [lstOf_lst k2]
  have Ep : Ext Non u (u.push (.exn 0)) := Ext.push Eu.wf
  have k3 : (u.push (.exn 0)).g (s.n + 2) = _ := Ep.get Eu.wf k2 (fun z => z)
  refine Rn.of (v := .non) (s' := (u.push (.exn 0)).set (s.n + 2) (.lst [.ref s.n, .ref (s.n + 1), .ref u.n])) ?_ ?_
  · change (match (u.push (.exn 0)).g (s.n + 2) with
    | some (.lst xs) => M.guard (decide (xs.length < line)) (fun s' => Out.ok AV.non (s'.set (s.n + 2) (.lst (xs ++ [AV.ref u.n])))) (u.push (.exn 0))
    | _ => .bad) = _
    rw [k3]
    rfl
  have Eq : Ext (· = s.n + 2) (u.push (.exn 0)) ((u.push (.exn 0)).set (s.n + 2) (.lst [.ref s.n, .ref (s.n + 1), .ref u.n])) := Ext.set Ep.wf (Ep.wf.lt k3) rfl
  have j2 : ((u.push (.exn 0)).set (s.n + 2) (.lst [.ref s.n, .ref (s.n + 1), .ref u.n])).g (s.n + 2) = _ := set_same
  have un : s.n + 2 < u.n := Eu.wf.lt k2
  have j0 := Eq.get Ep.wf (Ep.get Eu.wf (Eu.get wt g0 (fun z => z)) (fun z => z)) (by omega)
  have j1 := Eq.get Ep.wf (Ep.get Eu.wf (Eu.get wt g1 (fun z => z)) (fun z => z)) (by omega)
  have j3 := Eq.get Ep.wf (push_new : (u.push (.exn 0)).g u.n = _) (by omega)
  have wq := Eq.wf
  revert j0 j1 j2 j3 wq
  generalize (u.push (.exn 0)).set (s.n + 2) (.lst [.ref s.n, .ref (s.n + 1), .ref u.n]) = q
  intro j2 j0 j1 j3 wq
  refine s_ret (v_and (v_bi (l_cons (v_lc (i_val (fun _ => rfl) (v_var rfl (iter_lst (lstOf_lst j2) ?_)))))))
  refine lcA_inv [.ref s.n, .ref (s.n + 1), .ref u.n] (fun i vs s2 => s2 = q ∧ vs = List.replicate i (.bl true)) (lst_len (lstOf_lst j2)) ⟨rfl, rfl⟩ (fun i vs s2 ⟨E, _⟩ => by rw [E]; exact lst_item (lstOf_lst j2)) (fun i y vs s3 hx ⟨E3, ho⟩ => ?_) (fun vs s1 ⟨E1, ho⟩ => ?_)
  · subst E3
    have key : ∀ a c, y = .ref a → s3.g a = some (.exn c) → c < 30 → Rn (lcE ((den cl (callN cl ds 7) (.call 10 (.cons (.var 10) .nil))).v) [10] ((den cl (callN cl ds 7) .nil).t) [e0, e1, some (.ref (s.n + 2)), e3, e4, e5, e6, e7, e8, e9, e10] y s3) fun r s' => s' = s3 ∧ vs ++ r.toList = List.replicate (i + 1) (.bl true) := by
      intro a c ey ha hc
      subst ey
      refine lcE_nil rfl (v_call (l_cons (v_var rfl (l_nil ?_))))
      refine (is_error_ok 6 s3 a c hc (tag_exn ha)).mono fun r s4 ⟨er, es⟩ => ?_
      subst er
      refine ⟨es, ?_⟩
      rw [ho, List.replicate_succ']
      rfl
    match i, hx with
    | 0, hx => exact key s.n 28 (by cases hx; rfl) j0 (by decide)
    | 1, hx => exact key (s.n + 1) 29 (by cases hx; rfl) j1 (by decide)
    | 2, hx => exact key u.n 0 (by cases hx; rfl) j3 (by decide)
    | j + 3, hx => cases hx
  subst E1 ho
  refine ⟨by show 3 ≤ line; decide, l_nil ?_⟩
  refine Rn.of (v := .bl true) (s' := s1.push (.lst (List.replicate 3 (.bl true)))) ?_ ⟨true, rfl, it_t ?_⟩
  · change (match (lstOf (s1.push (.lst (List.replicate 3 (.bl true)))) (.ref s1.n)).bind asBools with
      | some bs => Out.ok (AV.bl (bs.all id)) (s1.push (.lst (List.replicate 3 (.bl true))))
      | none => .bad) = _
    rw [lstOf_lst push_new]
    rfl
  have Ey : Ext Non s1 (s1.push (.lst (List.replicate 3 (.bl true)))) := Ext.push wq
  refine v_cmp (v_call (l_cons (v_idx (v_var rfl (v_int (ix_lst (v := .ref u.n) (Ey.get wq j2 (fun z => z)) rfl (l_nil ?_)))))))
  refine (code_ok 6 _ u.n 0 Ey.wf (tag_exn (Ey.get wq j3 (fun z => z)))).mono fun r s4 ⟨k, er, hk, E4⟩ => ?_
  subst er
  rw [code0] at hk
  refine v_lst (l_nil ⟨by show 0 ≤ line; decide, ?_⟩)
  have F4 : Ext Non s4 (s4.push (.lst [])) := Ext.push E4.wf
  refine o_eq (eq_data (d := .list []) (e := .list []) (by rw [rd_lst (F4.get E4.wf hk (fun z => z))]; rfl) (by rw [rd_lst push_new]; rfl) (by decide +kernel) (by decide +kernel) ?_)
  rw [show PyData.eqv (.list []) (.list []) = true by decide +kernel]
theorem law_ok (ns : List Int) : ∃ st', callN cl ds 8 12 [.ref 0] (st0 ns) = .ok (.bl true) st' := by
  suffices h : Rn (callN cl ds 8 12 [.ref 0] (st0 ns)) fun v _ => v = .bl true by
    obtain ⟨v, s', e, rfl⟩ := h
    exact ⟨s', e⟩
  have w0 : Wf (st0 ns) := fun a h => if_neg (by have h : 1 ≤ a := h; omega)
  refine r_call (d := d12) rfl rfl ?_
  refine s_for (i_val (fun _ => rfl) (v_call (l_cons (v_var rfl (l_cons (v_int (l_nil ?_)))))))
  refine (purses_ok 5 (st0 ns) 0 ns w0 rfl).mono fun v s1 ⟨E1, L, es, ev, hL, hlen, hg⟩ => ?_
  subst ev
  refine iter_lst (lstOf_lst hL) ?_
  refine forA_inv es (fun i env s => (∃ e1 e2 e3 e4 e5 e6 e7 e8 e9 e10, env = [some (.ref 0), e1, e2, e3, e4, e5, e6, e7, e8, e9, e10]) ∧ Wf s ∧ s.g L = some (.lst es) ∧ ∀ e ∈ es, Good s (i * 20) e) (lst_len (lstOf_lst hL)) ⟨⟨_, _, _, _, _, _, _, _, _, _, rfl⟩, E1.wf, hL, fun e he => by simpa using hg e he⟩ (fun i env s ⟨_, _, h, _⟩ => lst_item (lstOf_lst h)) (fun i x env s hx ⟨⟨e1, e2, e3, e4, e5, e6, e7, e8, e9, e10, he⟩, ws, hs, hg⟩ => ?_) (fun env s ⟨⟨e1, e2, e3, e4, e5, e6, e7, e8, e9, e10, he⟩, ws, hs, hg⟩ => ?_)
  · subst he
    have hi : i < es.length := (List.getElem?_eq_some_iff.mp hx).1
    have hmem : x ∈ es := List.mem_of_getElem? hx
    obtain ⟨a, x1, ex, p, h0, h1⟩ := hg x hmem
    subst ex
    change Rn (MP.exec cl (callN cl ds 7) lawBody [some (.ref 0), some (.ref a), e2, e3, e4, e5, e6, e7, e8, e9, e10] s) _
    refine (turn_ok s 0 a _ x1 ws p (by omega) h0 h1 e2 e3 e4 e5 e6 e7 e8 e9 e10).mono fun f s2 ⟨⟨f3, f4, f5, f6, f7, f8, f9, ef⟩, E2, p2⟩ => ?_
    refine ⟨_, ef, ⟨_, _, _, _, _, _, _, _, _, _, rfl⟩, E2.wf, E2.get ws hs ?_, fun e he => ?_⟩
    · intro hLa
      obtain ⟨y0, y2, y3, e, _⟩ := p.ex
      rw [← hLa, hs] at e
      have e : es = _ := AO.lst.inj (Option.some.inj e)
      rw [e] at hmem
      simp at hmem
    · obtain ⟨a', x1', ex, p', h0', h1'⟩ := hg e he
      by_cases z : a' = a
      · exact ⟨a, x1, by rw [ex, z], p2.up (by omega), h0, h1⟩
      · exact ⟨a', x1', ex, (p'.ext ws E2 z).up (by omega), h0', h1'⟩
  · subst he
    refine th_nx ?_
    refine (rest_ok s ws _ _ _ _ _ _ _ _ _ _ _).mono fun f s2 hf => ?_
    subst hf
    exact e_rt rfl
end K01
end
theorem PySem.Challenge.cw_gatequarters_k01_errors_made_holds : PySem.Challenge.rw_gatequarters_k01_errors_made.Holds := by
  exact K01.holds fun ns _ _ => K01.law_ok ns
