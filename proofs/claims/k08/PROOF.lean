import PyProof.Rows.All
import Wide.All
import OpenK.AllK
import Wide.FinOn
import HandS.ForMost
import HandS.Wide
import HandS.TupAny
import HandS.TupMul
import HandS.Deep
import HandS.Style
import HandS.Small
import HandS.TupLen
import HandS.Rev
import HandS.Flow
import HandS.Dict
import HandS.Codes
import HandS.Exc
import HandS.Defaults
import HandS.HeadHook1
import HandS.HeadHook2
import HandS.HeadEnd
import HandS.EndBits
import KE.IntBitsLaws
import PyProof.ReprBulk
import PyProof.Rows.StrJoinMade
import KE.KStateDown
import HandS.Head0
import HandS.Head1
import HandS.Head2
import PySem.Challenge.RW_haltwords_k08_whole_longest_ends
set_option Elab.async false
set_option linter.all false
set_option maxRecDepth 100000
set_option maxHeartbeats 0
/-! The engine, part 1: a small language over data by value with a store, and what its programs do. -/
namespace G
open PySem
open L2 (Key)

inductive D where
  | non | bl (b : Bool) | int (i : Int) | str (x : Str) | tup (ds : List D) | ref (n : Nat) | fl (ds : List D)
  deriving Inhabited
inductive Ob where
  | lst (ds : List D)
  | dK (kvs : List (Key × D))
  | dT (kvs : List (List Key × D))
  deriving Inhabited
abbrev Sto := List Ob
abbrev Env := List (Option D)
inductive R (α : Type) where
  | ok (a : α) (S : Sto)
  | ex (c : Nat) (ds : List D) (S : Sto)
  | bad
@[inline] def R.bind {α β : Type} (r : R α) (f : α → Sto → R β) : R β := match r with
  | .ok a S => f a S
  | .ex c ds S => .ex c ds S
  | .bad => .bad
/-- an exception here is not served -/
def R.nox {α : Type} (r : R α) : R α := match r with
  | .ex _ _ _ => .bad
  | r => r
@[simp] theorem bind_ok {α β : Type} (a : α) (S : Sto) (f : α → Sto → R β) : (R.ok a S).bind f = f a S := rfl
@[simp] theorem bind_ex {α β : Type} (c : Nat) (ds : List D) (S : Sto) (f : α → Sto → R β) : (R.ex c ds S : R α).bind f = .ex c ds S := rfl
@[simp] theorem bind_bad {α β : Type} (f : α → Sto → R β) : (R.bad : R α).bind f = .bad := rfl
@[simp] theorem nox_ok {α : Type} (a : α) (S : Sto) : (R.ok a S).nox = .ok a S := rfl

inductive Bo where | add | sub | mul | fdiv | mod | pow
inductive Co where | eq | ne | lt | le | gt | ge | is_ | isn | in_ | nin
inductive Bi where | len | int | abs | max2 | min2 | sum | tuple | list | repr
inductive Mt where | app | pop | ext
inductive Tg where | n (i : Nat) | t (ts : List Tg)
mutual
inductive E where
  | v (i : Nat)
  | k (d : D)
  | g (n : Nat)
  | bin (o : Bo) (a b : E)
  | neg (a : E)
  | cmp (o : Co) (a b : E)
  | chain (o o' : Co) (a b c : E)
  | and (es : Es)
  | or (es : Es)
  | not (a : E)
  | ite (t a b : E)
  | tup (es : Es)
  | lst (es : Es)
  | dict (ks : List Str) (es : Es)
  | dict0 (t : Bool)
  | ix (a i : E)
  | sl (a : E) (lo hi : Eo)
  | rev (a : E)
  | call (f : Nat) (es : Es)
  | blt (b : Bi) (es : Es)
  | met (m : Mt) (o : E) (es : Es)
  | lc (own : List Nat) (tg : Tg) (it : It) (c : Eo) (e : E)
inductive Es where | nil | cons (e : E) (es : Es)
inductive Eo where | none | some (e : E)
inductive It where
  | of (e : E)
  | rng1 (a : E)
  | rng2 (a b : E)
  | revd (a : E)
  | enum (a : E)
end
mutual
inductive S where
  | asg (t : Tg) (e : E)
  | par (is : List Nat) (es : Es)
  | aug (i : Nat) (o : Bo) (e : E)
  | augP (a i : E) (o : Bo) (e : E)
  | never
  | put (o i e : E)
  | ex (e : E)
  | ret (e : E)
  | retN
  | ite (t : E) (a b : Ss)
  | whl (t : E) (b : Ss)
  | for_ (t : Tg) (it : It) (b : Ss)
  | pass | brk | cont
inductive Ss where | nil | cons (s : S) (ss : Ss)
end

/-! ### values -/
def lineN : Nat := 16777216
def truth (d : D) (S : Sto) : R Bool := match d with
  | .non => .ok false S
  | .bl b => .ok b S
  | .int i => .ok (i != 0) S
  | .str x => if x.length ≤ lineN then .ok (x.length != 0) S else .bad
  | .tup ds => .ok (!ds.isEmpty) S
  | .fl ds => .ok (!ds.isEmpty) S
  | .ref n => match S[n]? with
    | some (.lst ds) => .ok (!ds.isEmpty) S
    | some (.dK kvs) => .ok (!kvs.isEmpty) S
    | _ => .bad
/-- data by value, of a depth below f -/
def toPD (S : Sto) : Nat → D → Option PyData
  | 0, _ => none
  | f + 1, d => match d with
    | .non => some .none
    | .bl b => some (.bool b)
    | .int i => some (.int i)
    | .str x => some (.str x)
    | .tup ds => (ds.mapM (toPD S f)).map .tuple
    | .fl ds => (ds.mapM (toPD S f)).map .list
    | .ref n => match S[n]? with
      | some (.lst ds) => (ds.mapM (toPD S f)).map .list
      | _ => none
/-- == where both sides are data -/
def eqD (S : Sto) (a b : D) : Option Bool := match a, b with
  | .non, .non => some true
  | .bl x, .bl y => some (x == y)
  | .int i, .int j => some (i == j)
  | .str x, .str y => some (x == y)
  | _, _ => match toPD S 60 a, toPD S 60 b with
    | some x, some y => if x.canLay0 && y.canLay0 then some (PyData.eqv x y) else none
    | _, _ => none
def alloc (o : Ob) (S : Sto) : R D := .ok (.ref S.length) (S ++ [o])
def bitsOk (i j : Int) : Bool := decide (Builtin.Int.intBits i + Builtin.Int.intBits j ≤ 134217728)
def binD (o : Bo) (x y : D) (S : Sto) : R D := match o, x, y with
  | .add, .int i, .int j => .ok (.int (i + j)) S
  | .add, .str a, .str b => if a.length + b.length ≤ lineN then .ok (.str (a ++ b)) S else .bad
  | .add, .tup a, .tup b => if a.length + b.length ≤ lineN then .ok (.tup (a ++ b)) S else .bad
  | .add, .ref a, .ref b => match S[a]?, S[b]? with
    | some (.lst xs), some (.lst ys) => if xs.length + ys.length ≤ lineN then alloc (.lst (xs ++ ys)) S else .bad
    | _, _ => .bad
  | .sub, .int i, .int j => .ok (.int (i - j)) S
  | .mul, .int i, .int j => if bitsOk i j then .ok (.int (i * j)) S else .bad
  | .mul, .tup a, .int n => if 2 ≤ n ∧ n.natAbs ≤ 1000 ∧ a.length ≤ 1000 ∧ 0 < a.length then .ok (.tup (List.replicate n.toNat a).flatten) S else .bad
  | .mul, .ref a, .int n => match S[a]? with
    | some (.lst xs) => if n.natAbs < 2 ^ 63 ∧ xs.length * n.toNat ≤ lineN then alloc (.lst (List.replicate n.toNat xs).flatten) S else .bad
    | _ => .bad
  | .fdiv, .int i, .int j => if j ≠ 0 ∧ Builtin.Int.intBits j ≤ 9000 then .ok (.int (i.fdiv j)) S else .bad
  | .mod, .int i, .int j => if j ≠ 0 then .ok (.int (i.fmod j)) S else .bad
  | .pow, .int i, .int j => if 0 ≤ j ∧ j.natAbs ≤ 1000000 ∧ i.natAbs < 2 ^ 64 then .ok (.int (i ^ j.toNat)) S else .bad
  | _, _, _ => .bad
def eqR (S : Sto) (n : Bool) (a b : D) : R D := match eqD S a b with
  | some r => .ok (.bl (r != n)) S
  | none => .bad
def keyOf : D → Option Key
  | .int i => some (.inl i)
  | .str x => some (.inr x)
  | _ => none
def getK {κ : Type} [DecidableEq κ] (kvs : List (κ × D)) (k : κ) : Option D := (kvs.find? fun kv => decide (kv.1 = k)).map (·.2)
def putK {κ : Type} [DecidableEq κ] (kvs : List (κ × D)) (k : κ) (v : D) : List (κ × D) :=
  if kvs.any (fun kv => decide (kv.1 = k)) then kvs.map fun kv => if kv.1 = k then (kv.1, v) else kv else kvs ++ [(k, v)]
/-- what a dict at o has for x: none where this is not served -/
def dictGet (o : Ob) (x : D) : Option (Option D) := match o, x with
  | .dK kvs, x => (keyOf x).map fun k => getK kvs k
  | .dT kvs, .tup ds => (ds.mapM keyOf).map fun k => getK kvs k
  | _, _ => none
def inD (S : Sto) (n : Bool) (x y : D) : R D := match y with
  | .ref a => match S[a]? with
    | some (.lst ys) => match toPD S 60 x, ys.mapM (toPD S 60) with
      | some p, some qs => if p.canLay0 && PyData.canLayAll0 qs then .ok (.bl ((qs.any fun z => PyData.eqv z p) != n)) S else .bad
      | _, _ => .bad
    | some o => match dictGet o x with
      | some r => .ok (.bl (r.isSome != n)) S
      | none => .bad
    | none => .bad
  | _ => .bad
def isNon : D → Bool
  | .non => true
  | _ => false
def isB : D → D → Option Bool
  | .non, .non => some true
  | .bl a, .bl b => some (a == b)
  | .bl _, .non => some false
  | .int _, .non => some false
  | .str _, .non => some false
  | .tup _, .non => some false
  | .fl _, .non => some false
  | .ref _, .non => some false
  | _, _ => none
def cmpD (o : Co) (x y : D) (S : Sto) : R D := match o with
  | .eq => eqR S false x y
  | .ne => eqR S true x y
  | .lt => match x, y with
    | .int i, .int j => .ok (.bl (decide (i < j))) S
    | _, _ => .bad
  | .le => match x, y with
    | .int i, .int j => .ok (.bl (decide (i ≤ j))) S
    | _, _ => .bad
  | .gt => match x, y with
    | .int i, .int j => .ok (.bl (decide (j < i))) S
    | _, _ => .bad
  | .ge => match x, y with
    | .int i, .int j => .ok (.bl (decide (j ≤ i))) S
    | _, _ => .bad
  | .is_ => match isB x y with
    | some b => .ok (.bl b) S
    | none => .bad
  | .isn => match isB x y with
    | some b => .ok (.bl (!b)) S
    | none => .bad
  | .in_ => inD S false x y
  | .nin => inD S true x y
/-- x[i] -/
def ixD (x i : D) (S : Sto) : R D := match x, i with
  | .tup ds, .int i => match L2.atI ds i with
    | some d => .ok d S
    | none => .bad
  | .fl ds, .int i => match L2.atI ds i with
    | some d => .ok d S
    | none => .bad
  | .ref n, i => match S[n]? with
    | some (.lst ds) => match i with
      | .int i => match L2.atI ds i with
        | some d => .ok d S
        | none => .bad
      | _ => .bad
    | some o => match dictGet o i with
      | some (some d) => .ok d S
      | _ => .bad
    | none => .bad
  | _, _ => .bad
def cut {α : Type} (xs : List α) (lo hi : Option Int) : List α := (xs.drop (HT.sIx xs.length 0 lo)).take (HT.sIx xs.length xs.length hi - HT.sIx xs.length 0 lo)
def slD (x : D) (l h : Option Int) (S : Sto) : R D := match x with
  | .tup ds => .ok (.tup (cut ds l h)) S
  | .fl ds => alloc (.lst (cut ds l h)) S
  | .ref n => match S[n]? with
    | some (.lst ds) => alloc (.lst (cut ds l h)) S
    | _ => .bad
  | _ => .bad
def revD (x : D) (S : Sto) : R D := match x with
  | .tup ds => .ok (.tup ds.reverse) S
  | .fl ds => alloc (.lst ds.reverse) S
  | .ref n => match S[n]? with
    | some (.lst ds) => alloc (.lst ds.reverse) S
    | _ => .bad
  | _ => .bad
def intsOf : List D → Option (List Int)
  | [] => some []
  | .int i :: r => (intsOf r).map (i :: ·)
  | _ :: _ => none
def bltD (b : Bi) (xs : List D) (S : Sto) : R D := match b, xs with
  | .len, [.str x] => if x.length ≤ lineN then .ok (.int x.length) S else .bad
  | .len, [.tup ds] => .ok (.int ds.length) S
  | .len, [.fl ds] => .ok (.int ds.length) S
  | .len, [.ref n] => match S[n]? with
    | some (.lst ds) => .ok (.int ds.length) S
    | some (.dK kvs) => .ok (.int kvs.length) S
    | some (.dT kvs) => .ok (.int kvs.length) S
    | none => .bad
  | .int, [.int i] => .ok (.int i) S
  | .int, [.bl k] => .ok (.int (if k then 1 else 0)) S
  | .abs, [.int i] => .ok (.int (if i < 0 then -i else i)) S
  | .max2, [.int i, .int j] => .ok (.int (if j > i then j else i)) S
  | .min2, [.int i, .int j] => .ok (.int (if j < i then j else i)) S
  | .sum, [.fl ds] => match intsOf ds with
    | some is => .ok (.int is.sum) S
    | none => .bad
  | .sum, [.ref n] => match S[n]? with
    | some (.lst ds) => match intsOf ds with
      | some is => .ok (.int is.sum) S
      | none => .bad
    | _ => .bad
  | .tuple, [.tup ds] => .ok (.tup ds) S
  | .tuple, [.fl ds] => .ok (.tup ds) S
  | .tuple, [.ref n] => match S[n]? with
    | some (.lst ds) => .ok (.tup ds) S
    | _ => .bad
  | .list, [.tup ds] => alloc (.lst ds) S
  | .list, [.fl ds] => alloc (.lst ds) S
  | .list, [.ref n] => match S[n]? with
    | some (.lst ds) => alloc (.lst ds) S
    | _ => .bad
  | .repr, [d] => match toPD S 60 d with
    | some p => if p.showable && decide (p.shown.length ≤ lineN) then .ok (.str p.shown) S else .bad
    | none => .bad
  | _, _ => .bad
def metD (m : Mt) (o : D) (xs : List D) (S : Sto) : R D := match o with
  | .ref n => match S[n]? with
    | some (.lst ds) => match m, xs with
      | .app, [d] => if ds.length < lineN then .ok .non (S.set n (.lst (ds ++ [d]))) else .bad
      | .pop, [] => match ds.getLast? with
        | some d => .ok d (S.set n (.lst ds.dropLast))
        | none => .bad
      | .pop, [.int i] => match L2.ixN ds.length i with
        | some j => match ds[j]? with
          | some d => .ok d (S.set n (.lst (ds.eraseIdx j)))
          | none => .bad
        | none => .bad
      | .ext, [.ref k] => match S[k]? with
        | some (.lst es) => if ds.length + es.length ≤ lineN then .ok .non (S.set n (.lst (ds ++ es))) else .bad
        | _ => .bad
      | _, _ => .bad
    | _ => .bad
  | _ => .bad
def isLst (o : D) (S : Sto) : Bool := match o with
  | .ref n => (match S[n]? with
    | some (.lst _) => true
    | _ => false)
  | _ => false
/-- o[i] = v -/
def putD (o i v : D) (S : Sto) : R Unit := match o with
  | .ref n => match S[n]? with
    | some (.lst ds) => match i with
      | .int i => match L2.ixN ds.length i with
        | some j => .ok () (S.set n (.lst (ds.set j v)))
        | none => .bad
      | _ => .bad
    | some (.dK kvs) => match keyOf i with
      | some k => if kvs.length < lineN then .ok () (S.set n (.dK (putK kvs k v))) else .bad
      | none => .bad
    | some (.dT kvs) => match i with
      | .tup ds => match ds.mapM keyOf with
        | some k => if kvs.length < lineN then .ok () (S.set n (.dT (putK kvs k v))) else .bad
        | none => .bad
      | _ => .bad
    | _ => .bad
  | _ => .bad

/-- x op= y -/
def augD (o : Bo) (x y : D) (S : Sto) : R D := match o, x, y with
  | .add, .int i, .int j => .ok (.int (i + j)) S
  | .add, .str a, .str b => if a.length + b.length ≤ lineN then .ok (.str (a ++ b)) S else .bad
  | .add, .ref a, .ref b => match S[a]?, S[b]? with
    | some (.lst xs), some (.lst ys) => if xs.length + ys.length ≤ lineN then .ok (.ref a) (S.set a (.lst (xs ++ ys))) else .bad
    | _, _ => .bad
  | .sub, .int i, .int j => .ok (.int (i - j)) S
  | .mul, .int i, .int j => if bitsOk i j then .ok (.int (i * j)) S else .bad
  | .fdiv, .int i, .int j => if 0 < j ∧ j.natAbs < 1073741824 then .ok (.int (i.fdiv j)) S else .bad
  | .mod, .int i, .int j => if 0 < j then .ok (.int (i.fmod j)) S else .bad
  | _, _, _ => .bad

/-! ### targets -/
mutual
def asgT : Tg → D → Env → Option Env
  | .n i, d, ρ => some (ρ.set i (some d))
  | .t ts, .tup ds, ρ => asgTs ts ds ρ
  | .t _, _, _ => none
def asgTs : List Tg → List D → Env → Option Env
  | [], [], ρ => some ρ
  | t :: ts, d :: ds, ρ => (asgT t d ρ).bind fun ρ' => asgTs ts ds ρ'
  | _, _, _ => none
end
def wipe (ρ : Env) : List Nat → Env
  | [] => ρ
  | v :: vs => (wipe ρ vs).set v none

/-! ### what is walked -/
inductive Wk where
  | its (ds : List D)
  | liv (n : Nat) (many : Nat)
  | livE (n : Nat) (many : Nat)
  | livR (n : Nat) (many : Nat)
def Wk.at (w : Wk) (i : Nat) (S : Sto) : Option (Option D) := match w with
  | .its ds => some ds[i]?
  | .liv n _ => match S[n]? with
    | some (.lst ds) => some ds[i]?
    | _ => none
  | .livE n _ => match S[n]? with
    | some (.lst ds) => some (ds[i]?.map fun d => .tup [.int i, d])
    | _ => none
  | .livR n many => match S[n]? with
    | some (.lst ds) => if ds.length = many then some (if i < many then ds[many - 1 - i]? else none) else none
    | _ => none
def Wk.fuel : Wk → Nat
  | .its ds => ds.length + 1
  | .liv _ m => m + 1
  | .livE _ m => m + 1
  | .livR _ m => m + 1
def rangeL (lo : Int) (n : Nat) : List D := (List.range n).map fun (i : Nat) => .int (lo + ((i : Nat) : Int))

/-! ### the evaluation -/
structure Cfg where
  call : Nat → List D → Sto → R D
  wf : Nat
  gl : Nat → Option D
section
variable (C : Cfg)
/-- a comprehension's turns -/
def lcGo (w : Wk) (turn : D → Sto → R (Option D)) : Nat → Nat → List D → Sto → R (List D)
  | 0, _, _, _ => .bad
  | f + 1, i, acc, S => match w.at i S with
    | none => .bad
    | some none => .ok acc S
    | some (some d) => match turn d S with
      | .ok (some y) S' => if acc.length < lineN then lcGo w turn f (i + 1) (acc ++ [y]) S' else .bad
      | .ok none S' => lcGo w turn f (i + 1) acc S'
      | _ => .bad
mutual
def evE : E → Env → Sto → R D
  | .v i, ρ, S => match ρ[i]? with
    | some (some d) => .ok d S
    | _ => .bad
  | .k d, _, S => .ok d S
  | .g n, _, S => match C.gl n with
    | some d => .ok d S
    | none => .bad
  | .bin o a b, ρ, S => (evE a ρ S).bind fun x S => (evE b ρ S).bind fun y S => binD o x y S
  | .neg a, ρ, S => (evE a ρ S).bind fun x S => match x with
    | .int i => .ok (.int (-i)) S
    | _ => .bad
  | .cmp o a b, ρ, S => (evE a ρ S).bind fun x S => (evE b ρ S).bind fun y S => cmpD o x y S
  | .chain o o' a b c, ρ, S => (evE a ρ S).bind fun x S => (evE b ρ S).bind fun y S => (cmpD o x y S).bind fun r S => match r with
    | .bl true => (evE c ρ S).bind fun z S => cmpD o' y z S
    | .bl false => .ok (.bl false) S
    | _ => .bad
  | .and es, ρ, S => evA es ρ S
  | .or es, ρ, S => evO es ρ S
  | .not a, ρ, S => (evE a ρ S).bind fun x S => (truth x S).bind fun b S => .ok (.bl (!b)) S
  | .ite t a b, ρ, S => (evT t ρ S).bind fun c S => if c then evE a ρ S else evE b ρ S
  | .tup es, ρ, S => (evEs es ρ S).bind fun ds S => if ds.length ≤ lineN then .ok (.tup ds) S else .bad
  | .lst es, ρ, S => (evEs es ρ S).bind fun ds S => if ds.length ≤ lineN then alloc (.lst ds) S else .bad
  | .dict ks es, ρ, S => (evEs es ρ S).bind fun ds S => if ds.length = ks.length ∧ ks.length ≤ 15 then alloc (.dK ((ks.zip ds).foldl (fun acc kv => putK acc (.inr kv.1) kv.2) [])) S else .bad
  | .dict0 t, _, S => alloc (if t then .dT [] else .dK []) S
  | .ix a i, ρ, S => (evE a ρ S).bind fun x S => (evE i ρ S).bind fun y S => ixD x y S
  | .sl a lo hi, ρ, S => (evE a ρ S).bind fun x S => (evOp lo ρ S).bind fun l S => (evOp hi ρ S).bind fun h S => slD x l h S
  | .rev a, ρ, S => (evE a ρ S).bind fun x S => revD x S
  | .call f es, ρ, S => (evEs es ρ S).bind fun ds S => C.call f ds S
  | .blt b es, ρ, S => (evEs es ρ S).bind fun ds S => bltD b ds S
  | .met m o es, ρ, S => (evE o ρ S).bind fun x S => if isLst x S then (evEs es ρ S).bind fun ds S => metD m x ds S else .bad
  | .lc own tg it c e, ρ, S => (evI it ρ S).bind fun w S =>
      (lcGo w (fun d S => match asgT tg d (wipe ρ own) with
        | none => .bad
        | some ρ' => (evC c ρ' S).bind fun b S => if b then (evE e ρ' S).bind fun y S => .ok (some y) S else .ok none S) w.fuel 0 [] S).bind fun ds S => alloc (.lst ds) S
def evEs : Es → Env → Sto → R (List D)
  | .nil, _, S => .ok [] S
  | .cons e es, ρ, S => (evE e ρ S).bind fun x S => (evEs es ρ S).bind fun xs S => .ok (x :: xs) S
/-- an optional part of a slice -/
def evOp : Eo → Env → Sto → R (Option Int)
  | .none, _, S => .ok none S
  | .some e, ρ, S => (evE e ρ S).bind fun d S => match d with
    | .int i => .ok (some i) S
    | _ => .bad
/-- a clause's test -/
def evC : Eo → Env → Sto → R Bool
  | .none, _, S => .ok true S
  | .some e, ρ, S => evT e ρ S
/-- a and b and .. as a value -/
def evA : Es → Env → Sto → R D
  | .nil, _, _ => .bad
  | .cons e .nil, ρ, S => evE e ρ S
  | .cons e (.cons e' es), ρ, S => (evE e ρ S).bind fun x S => (truth x S).bind fun b S => if b then evA (.cons e' es) ρ S else .ok x S
def evO : Es → Env → Sto → R D
  | .nil, _, _ => .bad
  | .cons e .nil, ρ, S => evE e ρ S
  | .cons e (.cons e' es), ρ, S => (evE e ρ S).bind fun x S => (truth x S).bind fun b S => if b then .ok x S else evO (.cons e' es) ρ S
/-- as a test -/
def evT : E → Env → Sto → R Bool
  | .and es, ρ, S => evAT es ρ S
  | .or es, ρ, S => evOT es ρ S
  | .not a, ρ, S => (evT a ρ S).bind fun b S => .ok (!b) S
  | .ite t a b, ρ, S => (evT t ρ S).bind fun c S => if c then evT a ρ S else evT b ρ S
  | e, ρ, S => (evE e ρ S).bind fun x S => truth x S
def evAT : Es → Env → Sto → R Bool
  | .nil, _, _ => .bad
  | .cons e .nil, ρ, S => evT e ρ S
  | .cons e (.cons e' es), ρ, S => (evT e ρ S).bind fun b S => if b then evAT (.cons e' es) ρ S else .ok false S
def evOT : Es → Env → Sto → R Bool
  | .nil, _, _ => .bad
  | .cons e .nil, ρ, S => evT e ρ S
  | .cons e (.cons e' es), ρ, S => (evT e ρ S).bind fun b S => if b then .ok true S else evOT (.cons e' es) ρ S
def evI : It → Env → Sto → R Wk
  | .of e, ρ, S => (evE e ρ S).bind fun x S => match x with
    | .tup ds => .ok (.its ds) S
    | .fl ds => .ok (.its ds) S
    | .ref n => match S[n]? with
      | some (.lst ds) => .ok (.liv n ds.length) S
      | _ => .bad
    | _ => .bad
  | .rng1 a, ρ, S => (evE a ρ S).bind fun x S => match x with
    | .int j => if j.natAbs < 2 ^ 62 then .ok (.its (rangeL 0 j.toNat)) S else .bad
    | _ => .bad
  | .rng2 a b, ρ, S => (evE a ρ S).bind fun x S => (evE b ρ S).bind fun y S => match x, y with
    | .int i, .int j => if i.natAbs < 2 ^ 62 ∧ j.natAbs < 2 ^ 62 then .ok (.its (rangeL i (j - i).toNat)) S else .bad
    | _, _ => .bad
  | .revd a, ρ, S => (evE a ρ S).bind fun x S => match x with
    | .tup ds => .ok (.its ds.reverse) S
    | .ref n => match S[n]? with
      | some (.lst ds) => .ok (.livR n ds.length) S
      | _ => .bad
    | _ => .bad
  | .enum a, ρ, S => (evE a ρ S).bind fun x S => match x with
    | .ref n => match S[n]? with
      | some (.lst ds) => .ok (.livE n ds.length) S
      | _ => .bad
    | .tup ds => .ok (.its ((List.range ds.length).zip ds |>.map fun p => .tup [.int ((p.1 : Nat) : Int), p.2])) S
    | _ => .bad
end
end
/-! ### statements -/
inductive Fl where | nx | brk | cont | ret (d : D)
inductive RS where
  | ok (f : Fl) (ρ : Env) (S : Sto)
  | ex (c : Nat) (ds : List D) (ρ : Env) (S : Sto)
  | bad
/-- an expression's result within a statement -/
@[inline] def R.st {α : Type} (r : R α) (ρ : Env) (f : α → Sto → RS) : RS := match r with
  | .ok a S => f a S
  | .ex c ds S => .ex c ds ρ S
  | .bad => .bad
@[simp] theorem st_ok {α : Type} (a : α) (S : Sto) (ρ : Env) (f : α → Sto → RS) : (R.ok a S).st ρ f = f a S := rfl
@[simp] theorem st_ex {α : Type} (c : Nat) (ds : List D) (S : Sto) (ρ : Env) (f : α → Sto → RS) : (R.ex c ds S : R α).st ρ f = .ex c ds ρ S := rfl
@[simp] theorem st_bad {α : Type} (ρ : Env) (f : α → Sto → RS) : (R.bad : R α).st ρ f = .bad := rfl
/-- then, where the block goes on -/
@[inline] def RS.next (r : RS) (f : Env → Sto → RS) : RS := match r with
  | .ok .nx ρ S => f ρ S
  | r => r
@[simp] theorem next_nx (ρ : Env) (S : Sto) (f : Env → Sto → RS) : (RS.ok .nx ρ S).next f = f ρ S := rfl
@[simp] theorem next_brk (ρ : Env) (S : Sto) (f : Env → Sto → RS) : (RS.ok .brk ρ S).next f = .ok .brk ρ S := rfl
@[simp] theorem next_cont (ρ : Env) (S : Sto) (f : Env → Sto → RS) : (RS.ok .cont ρ S).next f = .ok .cont ρ S := rfl
@[simp] theorem next_ret (d : D) (ρ : Env) (S : Sto) (f : Env → Sto → RS) : (RS.ok (.ret d) ρ S).next f = .ok (.ret d) ρ S := rfl
@[simp] theorem next_ex (c : Nat) (ds : List D) (ρ : Env) (S : Sto) (f : Env → Sto → RS) : (RS.ex c ds ρ S).next f = .ex c ds ρ S := rfl
@[simp] theorem next_bad (f : Env → Sto → RS) : RS.bad.next f = .bad := rfl
/-- a loop's turn's end -/
@[inline] def RS.turn (r : RS) (f : Env → Sto → RS) : RS := match r with
  | .ok .nx ρ S => f ρ S
  | .ok .cont ρ S => f ρ S
  | .ok .brk ρ S => .ok .nx ρ S
  | r => r
@[simp] theorem turn_nx (ρ : Env) (S : Sto) (f : Env → Sto → RS) : (RS.ok .nx ρ S).turn f = f ρ S := rfl
@[simp] theorem turn_brk (ρ : Env) (S : Sto) (f : Env → Sto → RS) : (RS.ok .brk ρ S).turn f = .ok .nx ρ S := rfl
@[simp] theorem turn_cont (ρ : Env) (S : Sto) (f : Env → Sto → RS) : (RS.ok .cont ρ S).turn f = f ρ S := rfl
@[simp] theorem turn_ret (d : D) (ρ : Env) (S : Sto) (f : Env → Sto → RS) : (RS.ok (.ret d) ρ S).turn f = .ok (.ret d) ρ S := rfl
@[simp] theorem turn_ex (c : Nat) (ds : List D) (ρ : Env) (S : Sto) (f : Env → Sto → RS) : (RS.ex c ds ρ S).turn f = .ex c ds ρ S := rfl
@[simp] theorem turn_bad (f : Env → Sto → RS) : RS.bad.turn f = .bad := rfl
def whlGo (t : Env → Sto → R Bool) (b : Env → Sto → RS) : Nat → Env → Sto → RS
  | 0, _, _ => .bad
  | f + 1, ρ, S => (t ρ S).st ρ fun c S => if c then (b ρ S).turn fun ρ S => whlGo t b f ρ S else .ok .nx ρ S
def forGo (w : Wk) (b : D → Env → Sto → RS) : Nat → Nat → Env → Sto → RS
  | 0, _, _, _ => .bad
  | f + 1, i, ρ, S => match w.at i S with
    | none => .bad
    | some none => .ok .nx ρ S
    | some (some d) => (b d ρ S).turn fun ρ S => forGo w b f (i + 1) ρ S
def asgN : List Nat → List D → Env → Option Env
  | [], [], ρ => some ρ
  | i :: is, d :: ds, ρ => asgN is ds (ρ.set i (some d))
  | _, _, _ => none
section
variable (C : Cfg)
mutual
def exS : S → Env → Sto → RS
  | .asg t e, ρ, S => (evE C e ρ S).st ρ fun x S => match asgT t x ρ with
    | some ρ' => .ok .nx ρ' S
    | none => .bad
  | .par is es, ρ, S => (evEs C es ρ S).st ρ fun ds S => match asgN is ds ρ with
    | some ρ' => .ok .nx ρ' S
    | none => .bad
  | .aug i o e, ρ, S => match ρ[i]? with
    | some (some x) => (evE C e ρ S).st ρ fun y S => (augD o x y S).st ρ fun z S => .ok .nx (ρ.set i (some z)) S
    | _ => .bad
  | .augP a i o e, ρ, S => (evE C a ρ S).st ρ fun x S => (evE C i ρ S).st ρ fun y S => (ixD x y S).st ρ fun z S => (evE C e ρ S).st ρ fun w S => (augD o z w S).st ρ fun v S => (putD x y v S).st ρ fun _ S => .ok .nx ρ S
  | .never, _, _ => .bad
  | .put o i e, ρ, S => (evE C e ρ S).st ρ fun v S => (evE C o ρ S).st ρ fun x S => (evE C i ρ S).st ρ fun y S => (putD x y v S).st ρ fun _ S => .ok .nx ρ S
  | .ex e, ρ, S => (evE C e ρ S).st ρ fun _ S => .ok .nx ρ S
  | .ret e, ρ, S => (evE C e ρ S).st ρ fun d S => .ok (.ret d) ρ S
  | .retN, ρ, S => .ok (.ret .non) ρ S
  | .ite t a b, ρ, S => (evT C t ρ S).st ρ fun c S => if c then exSs a ρ S else exSs b ρ S
  | .whl t b, ρ, S => whlGo (fun ρ S => evT C t ρ S) (fun ρ S => exSs b ρ S) C.wf ρ S
  | .for_ t it b, ρ, S => (evI C it ρ S).st ρ fun w S => forGo w (fun d ρ S => match asgT t d ρ with
      | some ρ' => exSs b ρ' S
      | none => .bad) w.fuel 0 ρ S
  | .pass, ρ, S => .ok .nx ρ S
  | .brk, ρ, S => .ok .brk ρ S
  | .cont, ρ, S => .ok .cont ρ S
def exSs : Ss → Env → Sto → RS
  | .nil, ρ, S => .ok .nx ρ S
  | .cons s ss, ρ, S => (exS s ρ S).next fun ρ S => exSs ss ρ S
end
end
/-! ### defs -/
mutual
def D.under (n : Nat) : D → Bool
  | .ref m => decide (m < n)
  | .tup ds => underAll n ds
  | .fl ds => underAll n ds
  | _ => true
def underAll (n : Nat) : List D → Bool
  | [] => true
  | d :: ds => D.under n d && underAll n ds
end
def Ob.under (n : Nat) : Ob → Bool
  | .lst ds => underAll n ds
  | .dK kvs => kvs.all fun kv => D.under n kv.2
  | .dT kvs => kvs.all fun kv => D.under n kv.2
/-- what was made meanwhile goes, where nothing leads there -/
def tidy (n : Nat) (d : D) (S : Sto) : Sto := if D.under n d && (S.take n).all (Ob.under n) then S.take n else S
structure Fd where
  name : Str
  ps : List Str
  N : List Str
  body : Ss
def start (N : Nat) (ds : List D) : Env := ds.map some ++ List.replicate (N - ds.length) none
def callF (F : List Fd) (gl : Nat → Option D) (wf : Nat) : Nat → Nat → List D → Sto → R D
  | 0, _, _, _ => .bad
  | k + 1, f, ds, S => match F[f]? with
    | none => .bad
    | some fd => if ds.length = fd.ps.length then
        match exSs ⟨callF F gl wf k, wf, gl⟩ fd.body (start fd.N.length ds) S with
        | .ok (.ret d) _ S' => .ok d (tidy S.length d S')
        | .ok .nx _ S' => .ok .non (tidy S.length .non S')
        | .ex c xs _ S' => .ex c xs S'
        | _ => .bad
      else .bad
end G

/-! The engine, part 2: how data and the store lie in a heap. -/
namespace G
open PySem PySem.Spec PyProof.Rows L2

/-- a list of the module's own -/
def KL (K : PySem.W.Frag) (a : Addr) (xs : List V) : Prop :=
  ∃ (o : Obj) (its : Array Value) (n : Nat), K.lookup a = some o ∧ o.cls = .type "list" ∧ o.dict = none ∧ o.data = .seq its n ∧ its.size ≤ sizeLine ∧ Vals xs its.toList
/-- a list that nobody writes -/
def FL (K : PySem.W.Frag) (H : Hp) (a : Addr) (xs : List V) : Prop := (∃ o, H a = some (.frz o (.lst xs))) ∨ KL K a xs
theorem FL.sq {K : PySem.W.Frag} {H : Hp} {a : Addr} {xs : List V} (h : FL K H a xs) : SqL K H a xs := by
  rcases h with ⟨o, h⟩ | h
  · exact .inl (.inr ⟨o, h⟩)
  · exact .inr h

mutual
def Rep (K : PySem.W.Frag) (H : Hp) (α : List Addr) : D → V → Prop
  | .non, v => v = .non
  | .bl b, v => v = .bl b
  | .int i, v => v = .int i
  | .str x, v => v = .str x
  | .tup ds, v => ∃ a vs, v = .ref a ∧ H a = some (.tup vs) ∧ Reps K H α ds vs
  | .ref n, v => ∃ a, v = .ref a ∧ α[n]? = some a
  | .fl ds, v => ∃ a vs, v = .ref a ∧ FL K H a vs ∧ Reps K H α ds vs
def Reps (K : PySem.W.Frag) (H : Hp) (α : List Addr) : List D → List V → Prop
  | [], vs => vs = []
  | d :: ds, vs => ∃ v r, vs = v :: r ∧ Rep K H α d v ∧ Reps K H α ds r
end

def stays : HO → Bool
  | .tup _ => true
  | .frz _ _ => true
  | _ => false
/-- from one heap on to another one: the store's objects may change, new ones come -/
structure Ext (α : List Addr) (H : Hp) (α' : List Addr) (H' : Hp) : Prop where
  pre : ∃ β, α' = α ++ β
  new : ∀ b ∈ α', b ∈ α ∨ H b = none
  fr : ∀ b o, H b = some o → b ∉ α → H' b = some o
  st : ∀ b o, H b = some o → stays o = true → H' b = some o
section
variable {K : PySem.W.Frag} {H H1 H2 H' : Hp} {α α1 α2 α' : List Addr}
theorem Ext.refl : Ext α H α H := ⟨⟨[], by simp⟩, fun _ h => .inl h, fun _ _ h _ => h, fun _ _ h _ => h⟩
theorem Ext.trans (a : Ext α H α1 H1) (b : Ext α1 H1 α2 H2) : Ext α H α2 H2 := by
  obtain ⟨β1, e1⟩ := a.pre
  obtain ⟨β2, e2⟩ := b.pre
  refine ⟨⟨β1 ++ β2, by rw [e2, e1, List.append_assoc]⟩, fun c hc => ?_, fun c o h hn => ?_, fun c o h s => b.st c o (a.st c o h s) s⟩
  · rcases b.new c hc with h | h
    · exact a.new c h
    · by_cases hm : c ∈ α
      · exact .inl hm
      · refine .inr ?_
        cases q : H c with
        | none => rfl
        | some o =>
          have := a.fr c o q hm
          rw [h] at this
          cases this
  · refine b.fr c o (a.fr c o h hn) fun hm => ?_
    rcases a.new c hm with z | z
    · exact hn z
    · rw [h] at z
      cases z
theorem Ext.at (e : Ext α H α' H') {n : Nat} {a : Addr} (h : α[n]? = some a) : α'[n]? = some a := by
  obtain ⟨β, rfl⟩ := e.pre
  obtain ⟨h1, h2⟩ := List.getElem?_eq_some_iff.mp h
  rw [List.getElem?_append_left h1]
  exact h
theorem FL.mono {a : Addr} {xs : List V} (h : FL K H a xs) (e : Ext α H α' H') : FL K H' a xs := by
  rcases h with ⟨o, h⟩ | h
  · exact .inl ⟨o, e.st _ _ h rfl⟩
  · exact .inr h
mutual
theorem Rep.mono (e : Ext α H α' H') : ∀ (d : D) (v : V), Rep K H α d v → Rep K H' α' d v
  | .non, _, h => by simp only [Rep] at h ⊢; exact h
  | .bl _, _, h => by simp only [Rep] at h ⊢; exact h
  | .int _, _, h => by simp only [Rep] at h ⊢; exact h
  | .str _, _, h => by simp only [Rep] at h ⊢; exact h
  | .tup ds, _, h => by
    simp only [Rep] at h ⊢
    obtain ⟨a, vs, h1, h2, h3⟩ := h
    exact ⟨a, vs, h1, e.st _ _ h2 rfl, Reps.mono e ds vs h3⟩
  | .ref n, _, h => by
    simp only [Rep] at h ⊢
    obtain ⟨a, h1, h2⟩ := h
    exact ⟨a, h1, e.at h2⟩
  | .fl ds, _, h => by
    simp only [Rep] at h ⊢
    obtain ⟨a, vs, h1, h2, h3⟩ := h
    exact ⟨a, vs, h1, h2.mono e, Reps.mono e ds vs h3⟩
theorem Reps.mono (e : Ext α H α' H') : ∀ (ds : List D) (vs : List V), Reps K H α ds vs → Reps K H' α' ds vs
  | [], _, h => by simp only [Reps] at h ⊢; exact h
  | d :: ds, _, h => by
    simp only [Reps] at h ⊢
    obtain ⟨v, r, h1, h2, h3⟩ := h
    exact ⟨v, r, h1, Rep.mono e d v h2, Reps.mono e ds r h3⟩
end
theorem Reps.nil : Reps K H α [] [] := by simp only [Reps]
theorem Reps.cons {d : D} {ds : List D} {v : V} {vs : List V} (h : Rep K H α d v) (t : Reps K H α ds vs) : Reps K H α (d :: ds) (v :: vs) := by
  simp only [Reps]
  exact ⟨v, vs, rfl, h, t⟩
theorem Reps.nil_inv {vs : List V} (h : Reps K H α [] vs) : vs = [] := by simpa only [Reps] using h
theorem Reps.cons_inv {d : D} {ds : List D} {vs : List V} (h : Reps K H α (d :: ds) vs) : ∃ v r, vs = v :: r ∧ Rep K H α d v ∧ Reps K H α ds r := by simpa only [Reps] using h
theorem Reps.length : ∀ {ds : List D} {vs : List V}, Reps K H α ds vs → vs.length = ds.length
  | [], _, h => by rw [h.nil_inv]; rfl
  | d :: ds, _, h => by
    obtain ⟨v, r, rfl, _, t⟩ := h.cons_inv
    rw [List.length_cons, List.length_cons, t.length]
theorem Reps.get : ∀ {ds : List D} {vs : List V} {i : Nat} {d : D}, Reps K H α ds vs → ds[i]? = some d → ∃ v, vs[i]? = some v ∧ Rep K H α d v
  | [], _, _, _, _, h => by simp at h
  | d :: ds, _, 0, _, h, e => by
    obtain ⟨v, r, rfl, h1, _⟩ := h.cons_inv
    simp at e
    subst e
    exact ⟨v, rfl, h1⟩
  | d :: ds, _, i + 1, _, h, e => by
    obtain ⟨v, r, rfl, _, t⟩ := h.cons_inv
    obtain ⟨x, e1, e2⟩ := t.get (i := i) (by simpa using e)
    exact ⟨x, by simpa using e1, e2⟩
theorem Reps.none {ds : List D} {vs : List V} {i : Nat} (h : Reps K H α ds vs) (e : ds[i]? = none) : vs[i]? = none := by
  rw [List.getElem?_eq_none_iff] at e ⊢
  rw [h.length]
  exact e
theorem Reps.append : ∀ {ds es : List D} {vs us : List V}, Reps K H α ds vs → Reps K H α es us → Reps K H α (ds ++ es) (vs ++ us)
  | [], _, _, _, h, t => by rw [h.nil_inv]; exact t
  | d :: ds, _, _, _, h, t => by
    obtain ⟨v, r, rfl, h1, h2⟩ := h.cons_inv
    exact .cons h1 (h2.append t)
theorem Reps.set {x : D} {u : V} (r : Rep K H α x u) : ∀ {ds : List D} {vs : List V} (i : Nat), Reps K H α ds vs → Reps K H α (ds.set i x) (vs.set i u)
  | [], _, _, h => by rw [h.nil_inv]; simpa using Reps.nil
  | d :: ds, _, 0, h => by
    obtain ⟨v, r', rfl, h1, h2⟩ := h.cons_inv
    exact .cons r h2
  | d :: ds, _, i + 1, h => by
    obtain ⟨v, r', rfl, h1, h2⟩ := h.cons_inv
    exact .cons h1 (h2.set r i)
theorem Reps.take : ∀ {ds : List D} {vs : List V} (n : Nat), Reps K H α ds vs → Reps K H α (ds.take n) (vs.take n)
  | _, _, 0, _ => by simpa using Reps.nil
  | [], _, n + 1, h => by rw [h.nil_inv]; simpa using Reps.nil
  | d :: ds, _, n + 1, h => by
    obtain ⟨v, r, rfl, h1, h2⟩ := h.cons_inv
    exact .cons h1 (h2.take n)
theorem Reps.drop : ∀ {ds : List D} {vs : List V} (n : Nat), Reps K H α ds vs → Reps K H α (ds.drop n) (vs.drop n)
  | _, _, 0, h => h
  | [], _, n + 1, h => by rw [h.nil_inv]; simpa using Reps.nil
  | d :: ds, _, n + 1, h => by
    obtain ⟨v, r, rfl, h1, h2⟩ := h.cons_inv
    exact h2.drop n
theorem Reps.reverse : ∀ {ds : List D} {vs : List V}, Reps K H α ds vs → Reps K H α ds.reverse vs.reverse
  | [], _, h => by rw [h.nil_inv]; exact .nil
  | d :: ds, _, h => by
    obtain ⟨v, r, rfl, h1, h2⟩ := h.cons_inv
    rw [List.reverse_cons, List.reverse_cons]
    exact h2.reverse.append (.cons h1 .nil)
theorem Reps.erase : ∀ {ds : List D} {vs : List V} (i : Nat), Reps K H α ds vs → Reps K H α (ds.eraseIdx i) (vs.eraseIdx i)
  | [], _, _, h => by rw [h.nil_inv]; simpa using Reps.nil
  | d :: ds, _, 0, h => by
    obtain ⟨v, r', rfl, h1, h2⟩ := h.cons_inv
    exact h2
  | d :: ds, _, i + 1, h => by
    obtain ⟨v, r', rfl, h1, h2⟩ := h.cons_inv
    exact .cons h1 (h2.erase i)
theorem Reps.rep {ds : List D} {vs : List V} (h : Reps K H α ds vs) : ∀ n : Nat, Reps K H α (List.replicate n ds).flatten (List.replicate n vs).flatten
  | 0 => .nil
  | n + 1 => by
    rw [List.replicate_succ, List.replicate_succ, List.flatten_cons, List.flatten_cons]
    exact h.append (h.rep n)
theorem Reps.ints {ds : List D} {vs : List V} : ∀ {ns : List Int}, intsOf ds = some ns → Reps K H α ds vs → vs = ns.map V.int := by
  intro ns
  induction ds generalizing vs ns with
  | nil =>
    intro e h
    simp only [intsOf, Option.some.injEq] at e
    subst e
    exact h.nil_inv
  | cons d ds ih =>
    intro e h
    obtain ⟨v, r, rfl, h1, h2⟩ := h.cons_inv
    cases d with
    | int i =>
      simp only [intsOf, Option.map_eq_some_iff] at e
      obtain ⟨m, e1, rfl⟩ := e
      simp only [Rep] at h1
      rw [h1, ih e1 h2]
      rfl
    | _ => simp [intsOf] at e
theorem Reps.ofInts : ∀ ns : List Int, Reps K H α (ns.map D.int) (ns.map V.int)
  | [] => .nil
  | n :: ns => .cons (by simp only [Rep]) (Reps.ofInts ns)

/-! ### the store -/
def RepKV {κ : Type} (K : PySem.W.Frag) (H : Hp) (α : List Addr) : List (κ × D) → List (κ × V) → Prop := Paired fun p q => p.1 = q.1 ∧ Rep K H α p.2 q.2
theorem RepKV.mono {κ : Type} (e : Ext α H α' H') {kvs : List (κ × D)} {ws : List (κ × V)} (h : RepKV K H α kvs ws) : RepKV K H' α' kvs ws :=
  Paired.mapP h fun _ _ z => ⟨z.1, z.2.mono e _ _⟩
def ObR (K : PySem.W.Frag) (H : Hp) (α : List Addr) (a : Addr) : Ob → Prop
  | .lst ds => ∃ vs, H a = some (.lst vs) ∧ Reps K H α ds vs
  | .dK kvs => ∃ ws, H a = some (.dK ws) ∧ RepKV K H α kvs ws
  | .dT kvs => ∃ ws, H a = some (.dT ws) ∧ RepKV K H α kvs ws
structure StR (K : PySem.W.Frag) (H : Hp) (α : List Addr) (S : Sto) : Prop where
  len : α.length = S.length
  nd : α.Nodup
  obj : ∀ (n : Nat) (o : Ob) (a : Addr), S[n]? = some o → α[n]? = some a → ObR K H α a o
variable {S : Sto}
theorem StR.there (s : StR K H α S) {n : Nat} {a : Addr} (h : α[n]? = some a) : ∃ o, S[n]? = some o ∧ ObR K H α a o := by
  obtain ⟨h1, _⟩ := List.getElem?_eq_some_iff.mp h
  have h2 : n < S.length := by rw [← s.len]; exact h1
  exact ⟨S[n], List.getElem?_eq_getElem h2, s.obj n _ a (List.getElem?_eq_getElem h2) h⟩
theorem StR.addr (s : StR K H α S) {n : Nat} {o : Ob} (h : S[n]? = some o) : ∃ a, α[n]? = some a ∧ ObR K H α a o := by
  obtain ⟨h1, _⟩ := List.getElem?_eq_some_iff.mp h
  have h2 : n < α.length := by rw [s.len]; exact h1
  exact ⟨α[n], List.getElem?_eq_getElem h2, s.obj n o _ h (List.getElem?_eq_getElem h2)⟩
theorem ObR.tracked {a : Addr} {o : Ob} (h : ObR K H α a o) : ∃ u, H a = some u ∧ stays u = false ∧ Mut (some u) := by
  cases o with
  | lst ds => obtain ⟨vs, e, _⟩ := h; exact ⟨_, e, rfl, trivial⟩
  | dK kvs => obtain ⟨vs, e, _⟩ := h; exact ⟨_, e, rfl, trivial⟩
  | dT kvs => obtain ⟨vs, e, _⟩ := h; exact ⟨_, e, rfl, trivial⟩
theorem StR.tracked (s : StR K H α S) {a : Addr} (h : a ∈ α) : ∃ u, H a = some u ∧ stays u = false := by
  obtain ⟨n, hn⟩ := List.getElem?_of_mem h
  obtain ⟨o, _, ho⟩ := s.there hn
  obtain ⟨u, e, k, _⟩ := ho.tracked
  exact ⟨u, e, k⟩
theorem ObR.mono {a : Addr} {o : Ob} (e : Ext α H α' H') (h : ObR K H α a o) (k : H' a = H a) : ObR K H' α' a o := by
  cases o with
  | lst ds => obtain ⟨vs, q, r⟩ := h; exact ⟨vs, k.trans q, r.mono e _ _⟩
  | dK kvs => obtain ⟨vs, q, r⟩ := h; exact ⟨vs, k.trans q, r.mono e⟩
  | dT kvs => obtain ⟨vs, q, r⟩ := h; exact ⟨vs, k.trans q, r.mono e⟩
/-- a new object beside the store -/
theorem Ext.laid {p : Addr} {o : HO} (hp : H p = none) : Ext α H α (upd H p o) :=
  ⟨⟨[], by simp⟩, fun _ h => .inl h, fun b u h _ => by rw [upd_ne (ne_of_none h hp)]; exact h, fun b u h _ => by rw [upd_ne (ne_of_none h hp)]; exact h⟩
theorem StR.laid {p : Addr} {o : HO} (s : StR K H α S) (hp : H p = none) : StR K (upd H p o) α S :=
  ⟨s.len, s.nd, fun n u a h1 h2 => by
    have q := s.obj n u a h1 h2
    obtain ⟨w, e, _⟩ := q.tracked
    exact q.mono (.laid hp) (upd_ne (ne_of_none e hp))⟩
/-- a new object of the store -/
theorem Ext.alloc {p : Addr} {o : HO} (hp : H p = none) : Ext α H (α ++ [p]) (upd H p o) :=
  ⟨⟨[p], rfl⟩, fun b h => by
    rcases List.mem_append.mp h with h | h
    · exact .inl h
    · rw [List.mem_singleton.mp h]; exact .inr hp, fun b u h _ => by rw [upd_ne (ne_of_none h hp)]; exact h, fun b u h _ => by rw [upd_ne (ne_of_none h hp)]; exact h⟩
theorem StR.fresh (s : StR K H α S) {p : Addr} (hp : H p = none) : p ∉ α := fun h => by
  obtain ⟨u, e, _⟩ := s.tracked h
  rw [hp] at e
  cases e
theorem StR.alloc {p : Addr} {u : HO} {o : Ob} (s : StR K H α S) (hp : H p = none) (h : ObR K (upd H p u) (α ++ [p]) p o) : StR K (upd H p u) (α ++ [p]) (S ++ [o]) := by
  refine ⟨by rw [List.length_append, List.length_append, s.len]; rfl, ?_, fun n o' a h1 h2 => ?_⟩
  · rw [List.nodup_append]
    refine ⟨s.nd, by simp, fun a ha b hb => ?_⟩
    rw [List.mem_singleton.mp hb]
    rintro rfl
    exact s.fresh hp ha
  · by_cases hn : n < S.length
    · rw [List.getElem?_append_left hn] at h1
      rw [List.getElem?_append_left (by rw [s.len]; exact hn)] at h2
      have q := s.obj n o' a h1 h2
      obtain ⟨w, e, _⟩ := q.tracked
      exact q.mono (.alloc hp) (upd_ne (ne_of_none e hp))
    · have hl := (List.getElem?_eq_some_iff.mp h1).1
      rw [List.length_append, List.length_singleton] at hl
      have en : n = S.length := by omega
      subst en
      rw [List.getElem?_append_right (Nat.le_refl _), Nat.sub_self] at h1
      rw [← s.len, List.getElem?_append_right (Nat.le_refl _), Nat.sub_self] at h2
      simp at h1 h2
      subst h1 h2
      exact h
/-- an object of the store written -/
theorem Ext.write {a : Addr} {u w : HO} (hm : a ∈ α) (e : H a = some w) (hw : stays w = false) : Ext α H α (upd H a u) :=
  ⟨⟨[], by simp⟩, fun _ h => .inl h, fun b o h hn => by
    rw [upd_ne]
    · exact h
    · rintro rfl
      exact hn hm, fun b o h k => by
    rw [upd_ne]
    · exact h
    · rintro rfl
      rw [e] at h
      cases h
      rw [hw] at k
      cases k⟩
theorem StR.write {a : Addr} {u w : HO} {n : Nat} {o : Ob} (s : StR K H α S) (ha : α[n]? = some a) (e : H a = some w) (hw : stays w = false) (h : ObR K (upd H a u) α a o) : StR K (upd H a u) α (S.set n o) := by
  refine ⟨by rw [List.length_set]; exact s.len, s.nd, fun m o' b h1 h2 => ?_⟩
  by_cases hmn : n = m
  · subst hmn
    rw [ha] at h2
    cases h2
    have hl := (List.getElem?_eq_some_iff.mp h1).1
    rw [List.getElem?_set_self (by simpa using hl)] at h1
    cases h1
    exact h
  · rw [List.getElem?_set_ne hmn] at h1
    have q := s.obj m o' b h1 h2
    refine q.mono (.write (List.mem_of_getElem? ha) e hw) (upd_ne fun z => ?_)
    subst z
    obtain ⟨l1, e1⟩ := List.getElem?_eq_some_iff.mp ha
    obtain ⟨l2, e2⟩ := List.getElem?_eq_some_iff.mp h2
    exact hmn ((List.getElem_inj s.nd).mp (e1.trans e2.symm))
/-! ### the places of the store that are kept -/
mutual
theorem Rep.less {n : Nat} : ∀ (d : D) (v : V), D.under n d = true → Rep K H α d v → Rep K H (α.take n) d v
  | .non, _, _, h => by simp only [Rep] at h ⊢; exact h
  | .bl _, _, _, h => by simp only [Rep] at h ⊢; exact h
  | .int _, _, _, h => by simp only [Rep] at h ⊢; exact h
  | .str _, _, _, h => by simp only [Rep] at h ⊢; exact h
  | .tup ds, _, k, h => by
    simp only [Rep] at h ⊢
    obtain ⟨a, vs, h1, h2, h3⟩ := h
    exact ⟨a, vs, h1, h2, Reps.less ds vs (by simpa only [D.under] using k) h3⟩
  | .ref m, _, k, h => by
    simp only [Rep] at h ⊢
    obtain ⟨a, h1, h2⟩ := h
    have k' : m < n := by simpa only [D.under, decide_eq_true_eq] using k
    exact ⟨a, h1, by rw [List.getElem?_take_of_lt k']; exact h2⟩
  | .fl ds, _, k, h => by
    simp only [Rep] at h ⊢
    obtain ⟨a, vs, h1, h2, h3⟩ := h
    exact ⟨a, vs, h1, h2, Reps.less ds vs (by simpa only [D.under] using k) h3⟩
theorem Reps.less {n : Nat} : ∀ (ds : List D) (vs : List V), underAll n ds = true → Reps K H α ds vs → Reps K H (α.take n) ds vs
  | [], _, _, h => by simp only [Reps] at h ⊢; exact h
  | d :: ds, _, k, h => by
    simp only [Reps] at h ⊢
    obtain ⟨v, r, h1, h2, h3⟩ := h
    have k' : D.under n d = true ∧ underAll n ds = true := by simpa only [underAll, Bool.and_eq_true] using k
    exact ⟨v, r, h1, Rep.less d v k'.1 h2, Reps.less ds r k'.2 h3⟩
end
theorem repKV_less {κ : Type} {n : Nat} : ∀ {kvs : List (κ × D)} {ws : List (κ × V)}, (kvs.all fun kv => D.under n kv.2) = true → RepKV K H α kvs ws → RepKV K H (α.take n) kvs ws
  | [], _, _, h => by cases h; exact .nil
  | p :: kvs, _, k, h => by
    rw [List.all_cons, Bool.and_eq_true] at k
    cases h with
    | cons r t => exact .cons ⟨r.1, r.2.less _ _ k.1⟩ (repKV_less k.2 t)
theorem StR.less {n : Nat} (s : StR K H α S) (h : (S.take n).all (Ob.under n) = true) : StR K H (α.take n) (S.take n) := by
  refine ⟨by rw [List.length_take, List.length_take, s.len], s.nd.sublist (List.take_sublist _ _), fun m o a h1 h2 => ?_⟩
  have hu : Ob.under n o = true := List.all_eq_true.mp h o (List.mem_of_getElem? h1)
  have hm : m < n := by
    have := (List.getElem?_eq_some_iff.mp h1).1
    rw [List.length_take] at this
    omega
  rw [List.getElem?_take_of_lt hm] at h1 h2
  have q := s.obj m o a h1 h2
  cases o with
  | lst ds => obtain ⟨vs, q, r⟩ := q; exact ⟨vs, q, r.less _ _ (by simpa only [Ob.under] using hu)⟩
  | dK kvs => obtain ⟨vs, q, r⟩ := q; exact ⟨vs, q, repKV_less (by simpa only [Ob.under] using hu) r⟩
  | dT kvs => obtain ⟨vs, q, r⟩ := q; exact ⟨vs, q, repKV_less (by simpa only [Ob.under] using hu) r⟩
theorem Ext.less {n : Nat} (e : Ext α H α' H') (h : n = α.length) : Ext α H (α'.take n) H' := by
  obtain ⟨β, rfl⟩ := e.pre
  subst h
  rw [List.take_left]
  exact ⟨⟨[], by simp⟩, fun _ z => .inl z, e.fr, e.st⟩

/-! ### slots -/
def EnvR (K : PySem.W.Frag) (H : Hp) (α : List Addr) (σ : L2.St) (ρ : Env) : Prop :=
  ρ.length = σ.length ∧ ∀ (i : Nat) (d : D), ρ[i]? = some (some d) → ∃ v, σ[i]? = some (some v) ∧ Rep K H α d v
theorem EnvR.mono {σ : L2.St} {ρ : Env} (h : EnvR K H α σ ρ) (e : Ext α H α' H') : EnvR K H' α' σ ρ :=
  ⟨h.1, fun i d q => let ⟨v, a, b⟩ := h.2 i d q; ⟨v, a, b.mono e _ _⟩⟩
theorem EnvR.set {σ : L2.St} {ρ : Env} {i : Nat} {d : D} {v : V} (h : EnvR K H α σ ρ) (r : Rep K H α d v) : EnvR K H α (σ.set i (some v)) (ρ.set i (some d)) := by
  refine ⟨by rw [List.length_set, List.length_set]; exact h.1, fun j c q => ?_⟩
  by_cases hij : i = j
  · subst hij
    have hl := (List.getElem?_eq_some_iff.mp q).1
    rw [List.length_set] at hl
    rw [List.getElem?_set_self hl] at q
    cases q
    exact ⟨v, List.getElem?_set_self (by rw [← h.1]; exact hl), r⟩
  · rw [List.getElem?_set_ne hij] at q
    rw [List.getElem?_set_ne hij]
    exact h.2 j c q
theorem EnvR.wipe {σ : L2.St} {ρ : Env} (h : EnvR K H α σ ρ) : ∀ vs : List Nat, EnvR K H α (L2.wipe σ vs) (G.wipe ρ vs)
  | [] => h
  | v :: vs => by
    have ih := h.wipe vs
    unfold L2.wipe G.wipe
    refine ⟨by rw [List.length_set, List.length_set]; exact ih.1, fun j c q => ?_⟩
    by_cases hij : v = j
    · subst hij
      have hl := (List.getElem?_eq_some_iff.mp q).1
      rw [List.length_set] at hl
      rw [List.getElem?_set_self hl] at q
      cases q
    · rw [List.getElem?_set_ne hij] at q
      rw [List.getElem?_set_ne hij]
      exact ih.2 j c q
end
end G

/-! The engine, part 3: operations by values. -/
namespace G
open PySem PySem.Spec PyProof.Rows L2

/-- what is wanted behind a result -/
abbrev PXT := Nat → List D → List Addr → Hp → Prop
def Pst {β : Type} (K : PySem.W.Frag) (PX : PXT) (α : List Addr) (H : Hp) (r : R β) (F : β → List Addr → Hp → Sto → Prop) : Prop := match r with
  | .ok b S' => ∀ α' H', StR K H' α' S' → Ext α H α' H' → F b α' H' S'
  | .ex c ds S' => ∀ α' H', StR K H' α' S' → Ext α H α' H' → PX c ds α' H'
  | .bad => False
section
variable {β γ : Type} {K : PySem.W.Frag} {PX : PXT} {α α1 : List Addr} {H H1 : Hp} {r : R β} {S : Sto}
theorem Pst.imp {F G : β → List Addr → Hp → Sto → Prop} (h : Pst K PX α H r F) (i : ∀ b α' H' S', StR K H' α' S' → Ext α H α' H' → F b α' H' S' → G b α' H' S') : Pst K PX α H r G := by
  cases r with
  | ok b S' => exact fun α' H' s e => i b α' H' S' s e (h α' H' s e)
  | ex c ds S' => exact h
  | bad => exact h
theorem Pst.from {F : β → List Addr → Hp → Sto → Prop} (h : Pst K PX α H r F) (e : Ext α H α1 H1) : Pst K PX α1 H1 r F := by
  cases r with
  | ok b S' => exact fun α' H' s e' => h α' H' s (e.trans e')
  | ex c ds S' => exact fun α' H' s e' => h α' H' s (e.trans e')
  | bad => exact h
theorem Pst.bind {f : β → Sto → R γ} {F : γ → List Addr → Hp → Sto → Prop} (h : Pst K PX α H (r.bind f) F) : Pst K PX α H r fun b α' H' S' => Pst K PX α' H' (f b S') F := by
  cases r with
  | ok b S' => exact fun α' H' s e => Pst.from (r := f b S') h e
  | ex c ds S' => exact h
  | bad => exact h
end
/-- .. of a value -/
abbrev VF (K : PySem.W.Frag) (Q : VK) : D → List Addr → Hp → Sto → Prop := fun d α' H' _ => ∀ v, Rep K H' α' d v → Q v H'
def rVal (K : PySem.W.Frag) (f : List D → Sto → R D) : List V → Hp → VK → Prop := fun vs H Q => ∃ (PX : PXT) (α : List Addr) (S : Sto) (ds : List D), Reps K H α ds vs ∧ StR K H α S ∧ Pst K PX α H (f ds S) (VF K Q)
def l1 (f : D → Sto → R D) : List D → Sto → R D
  | [a], S => f a S
  | _, _ => .bad
def l2 (f : D → D → Sto → R D) : List D → Sto → R D
  | [a, b], S => f a b S
  | _, _ => .bad
section
variable {K : PySem.W.Frag} {PX : PXT} {α : List Addr} {H : Hp} {S : Sto} {Q : VK} {d : D} {v : V}
theorem rVal.one {f : D → Sto → R D} {x : V} (h : rVal K (l1 f) [x] H Q) : ∃ PX α S a, Rep K H α a x ∧ StR K H α S ∧ Pst K PX α H (f a S) (VF K Q) := by
  obtain ⟨PX, α, S, ds, r, s, p⟩ := h
  match ds, r, p with
  | [a], r, p =>
    obtain ⟨v, t, e, r1, _⟩ := r.cons_inv
    cases e
    exact ⟨PX, α, S, a, r1, s, p⟩
  | [], r, p => cases r.nil_inv
  | _ :: _ :: _, r, p => exact p.elim
theorem rVal.two {f : D → D → Sto → R D} {x y : V} (h : rVal K (l2 f) [x, y] H Q) : ∃ PX α S a b, Rep K H α a x ∧ Rep K H α b y ∧ StR K H α S ∧ Pst K PX α H (f a b S) (VF K Q) := by
  obtain ⟨PX, α, S, ds, r, s, p⟩ := h
  match ds, r, p with
  | [a, b], r, p =>
    obtain ⟨v, t, e, r1, r2⟩ := r.cons_inv
    cases e
    obtain ⟨v, t, e, r3, _⟩ := r2.cons_inv
    cases e
    exact ⟨PX, α, S, a, b, r1, r3, s, p⟩
  | [], r, p => cases r.nil_inv
  | [_], r, p => exact p.elim
  | _ :: _ :: _ :: _, r, p => exact p.elim
theorem ok_now (s : StR K H α S) (p : Pst K PX α H (.ok d S) (VF K Q)) (r : Rep K H α d v) : Q v H := p α H s .refl v r
theorem rep_int {i : Int} : Rep K H α (.int i) (.int i) := by simp only [Rep]
theorem rep_str {x : Str} : Rep K H α (.str x) (.str x) := by simp only [Rep]
theorem rep_bl {b : Bool} : Rep K H α (.bl b) (.bl b) := by simp only [Rep]
theorem rep_non : Rep K H α .non .non := by simp only [Rep]
theorem of_int {i : Int} (h : Rep K H α (.int i) v) : v = .int i := by simpa only [Rep] using h
theorem of_str {x : Str} (h : Rep K H α (.str x) v) : v = .str x := by simpa only [Rep] using h
theorem of_bl {b : Bool} (h : Rep K H α (.bl b) v) : v = .bl b := by simpa only [Rep] using h
theorem of_non (h : Rep K H α .non v) : v = .non := by simpa only [Rep] using h
theorem of_tup {ds : List D} (h : Rep K H α (.tup ds) v) : ∃ a vs, v = .ref a ∧ H a = some (.tup vs) ∧ Reps K H α ds vs := by simpa only [Rep] using h
theorem of_ref {n : Nat} (h : Rep K H α (.ref n) v) : ∃ a, v = .ref a ∧ α[n]? = some a := by simpa only [Rep] using h
theorem of_fl {ds : List D} (h : Rep K H α (.fl ds) v) : ∃ a vs, v = .ref a ∧ FL K H a vs ∧ Reps K H α ds vs := by simpa only [Rep] using h
theorem rep_tup {ds : List D} {a : Addr} {vs : List V} (h : H a = some (.tup vs)) (r : Reps K H α ds vs) : Rep K H α (.tup ds) (.ref a) := by
  simp only [Rep]
  exact ⟨a, vs, rfl, h, r⟩
theorem rep_ref {n : Nat} {a : Addr} (h : α[n]? = some a) : Rep K H α (.ref n) (.ref a) := by
  simp only [Rep]
  exact ⟨a, rfl, h⟩
theorem ok_tup {ds : List D} {vs : List V} (s : StR K H α S) (p : Pst K PX α H (.ok (.tup ds) S) (VF K Q)) (r : Reps K H α ds vs) {a : Addr} (ha : H a = none) : Q (.ref a) (upd H a (.tup vs)) :=
  p α _ (s.laid ha) (.laid ha) (.ref a) (rep_tup upd_same (r.mono (.laid ha) _ _))
theorem at_end {p : Addr} (s : StR K H α S) : (α ++ [p])[S.length]? = some p := by
  rw [← s.len, List.getElem?_append_right (Nat.le_refl _), Nat.sub_self]
  rfl
theorem ok_lst {ds : List D} {vs : List V} (s : StR K H α S) (p : Pst K PX α H (alloc (.lst ds) S) (VF K Q)) (r : Reps K H α ds vs) {a : Addr} (ha : H a = none) : Q (.ref a) (upd H a (.lst vs)) :=
  p (α ++ [a]) _ (s.alloc ha ⟨vs, upd_same, r.mono (.alloc ha) _ _⟩) (.alloc ha) (.ref a) (rep_ref (at_end s))
theorem ok_dK {kvs : List (Key × D)} {ws : List (Key × V)} (s : StR K H α S) (p : Pst K PX α H (alloc (.dK kvs) S) (VF K Q)) (r : RepKV K H α kvs ws) {a : Addr} (ha : H a = none) : Q (.ref a) (upd H a (.dK ws)) :=
  p (α ++ [a]) _ (s.alloc ha ⟨ws, upd_same, r.mono (.alloc ha)⟩) (.alloc ha) (.ref a) (rep_ref (at_end s))
theorem ok_dT {kvs : List (List Key × D)} {ws : List (List Key × V)} (s : StR K H α S) (p : Pst K PX α H (alloc (.dT kvs) S) (VF K Q)) (r : RepKV K H α kvs ws) {a : Addr} (ha : H a = none) : Q (.ref a) (upd H a (.dT ws)) :=
  p (α ++ [a]) _ (s.alloc ha ⟨ws, upd_same, r.mono (.alloc ha)⟩) (.alloc ha) (.ref a) (rep_ref (at_end s))
/-- a list of the store -/
theorem StR.lst {n : Nat} {ds : List D} {a : Addr} (s : StR K H α S) (e : S[n]? = some (.lst ds)) (ha : α[n]? = some a) : ∃ vs, H a = some (.lst vs) ∧ Reps K H α ds vs := s.obj n _ a e ha
theorem lineN_eq : lineN = sizeLine := by rw [sizeLine_eq]; rfl
end
theorem keyOf_rep {K : PySem.W.Frag} {H : Hp} {α : List Addr} {d : D} {k : Key} {v : V} (e : keyOf d = some k) (r : Rep K H α d v) : v = kV k := by
  cases d with
  | int i => cases e; exact of_int r
  | str x => cases e; exact of_str r
  | _ => cases e
theorem keysOf_rep {K : PySem.W.Frag} {H : Hp} {α : List Addr} : ∀ {ds : List D} {ks : List Key} {vs : List V}, ds.mapM keyOf = some ks → Reps K H α ds vs → vs = ks.map kV
  | [], ks, vs, e, r => by
    cases e
    exact r.nil_inv
  | d :: ds, ks, vs, e, r => by
    rw [List.mapM_cons] at e
    obtain ⟨v, t, rfl, r1, r2⟩ := r.cons_inv
    cases q : keyOf d with
    | none => rw [q] at e; cases e
    | some k =>
      rw [q] at e
      cases q2 : ds.mapM keyOf with
      | none => rw [q2] at e; cases e
      | some ks' =>
        rw [q2] at e
        cases e
        rw [keyOf_rep q r1, keysOf_rep q2 r2]
        rfl
def OR (K : PySem.W.Frag) (H : Hp) (α : List Addr) : Option D → Option V → Prop
  | some d, q => ∃ v, q = some v ∧ Rep K H α d v
  | none, q => q = none
theorem getK_rep {κ : Type} [DecidableEq κ] {K : PySem.W.Frag} {H : Hp} {α : List Addr} {k : κ} : ∀ {kvs : List (κ × D)} {ws : List (κ × V)}, RepKV K H α kvs ws → OR K H α (getK kvs k) (valV ws k)
  | _, _, .nil => rfl
  | p :: kvs, q :: ws, .cons r t => by
    have ih := getK_rep (k := k) t
    by_cases h : p.1 = k
    · have e1 : getK (p :: kvs) k = some p.2 := by unfold getK; rw [List.find?_cons, decide_eq_true h]; rfl
      rw [e1]
      exact ⟨q.2, valV_pos (r.1.symm.trans h), r.2⟩
    · have e1 : getK (p :: kvs) k = getK kvs k := by unfold getK; rw [List.find?_cons, decide_eq_false h]
      rw [e1, valV_neg (fun z => h (r.1.trans z))]
      exact ih
theorem any_rep {κ : Type} [DecidableEq κ] {K : PySem.W.Frag} {H : Hp} {α : List Addr} {k : κ} : ∀ {kvs : List (κ × D)} {ws : List (κ × V)}, RepKV K H α kvs ws → (ws.any fun kv => decide (kv.1 = k)) = kvs.any fun kv => decide (kv.1 = k)
  | _, _, .nil => rfl
  | p :: kvs, q :: ws, .cons r t => by
    rw [List.any_cons, List.any_cons, any_rep t, r.1]
theorem map_rep {κ : Type} [DecidableEq κ] {K : PySem.W.Frag} {H : Hp} {α : List Addr} {k : κ} {d : D} {v : V} (rv : Rep K H α d v) : ∀ {kvs : List (κ × D)} {ws : List (κ × V)}, RepKV K H α kvs ws →
    RepKV K H α (kvs.map fun kv => if kv.1 = k then (kv.1, d) else kv) (ws.map fun kv => if kv.1 = k then (kv.1, v) else kv)
  | _, _, .nil => .nil
  | p :: kvs, q :: ws, .cons r t => by
    refine .cons ?_ (map_rep rv t)
    show (if p.1 = k then (p.1, d) else p).1 = (if q.1 = k then (q.1, v) else q).1 ∧ Rep K H α (if p.1 = k then (p.1, d) else p).2 (if q.1 = k then (q.1, v) else q).2
    by_cases h : p.1 = k
    · rw [if_pos h, if_pos (r.1.symm.trans h)]
      exact ⟨r.1, rv⟩
    · rw [if_neg h, if_neg (fun z => h (r.1.trans z))]
      exact r
theorem snoc_rep {κ : Type} {K : PySem.W.Frag} {H : Hp} {α : List Addr} {k : κ} {d : D} {v : V} (rv : Rep K H α d v) : ∀ {kvs : List (κ × D)} {ws : List (κ × V)}, RepKV K H α kvs ws → RepKV K H α (kvs ++ [(k, d)]) (ws ++ [(k, v)])
  | _, _, .nil => .cons ⟨rfl, rv⟩ .nil
  | p :: kvs, q :: ws, .cons r t => .cons r (snoc_rep rv t)
theorem putK_rep {κ : Type} [DecidableEq κ] {K : PySem.W.Frag} {H : Hp} {α : List Addr} {k : κ} {d : D} {v : V} (rv : Rep K H α d v) {kvs : List (κ × D)} {ws : List (κ × V)} (h : RepKV K H α kvs ws) : RepKV K H α (G.putK kvs k d) (L2.putK ws k v) := by
  unfold G.putK L2.putK
  rw [any_rep h]
  split
  · exact map_rep rv h
  · exact snoc_rep rv h
theorem repKV_len {κ : Type} {K : PySem.W.Frag} {H : Hp} {α : List Addr} {kvs : List (κ × D)} {ws : List (κ × V)} (h : RepKV K H α kvs ws) : ws.length = kvs.length := (Paired.length h).symm
/-- what a dict has -/
theorem dget_rep {K : PySem.W.Frag} {H : Hp} {α : List Addr} {a : Addr} {o : Ob} {x : D} {y : V} {r : Option D} (ho : ObR K H α a o) (rx : Rep K H α x y) (e : dictGet o x = some r) :
    ∃ q, DGet H a y q ∧ OR K H α r q := by
  cases o with
  | lst ds => cases x <;> cases e
  | dK kvs =>
    obtain ⟨ws, h1, h2⟩ := ho
    have e' : (keyOf x).map (fun k => getK kvs k) = some r := by cases x <;> exact e
    rw [Option.map_eq_some_iff] at e'
    obtain ⟨k, k1, rfl⟩ := e'
    rw [keyOf_rep k1 rx]
    exact ⟨valV ws k, DGet.k h1, getK_rep h2⟩
  | dT kvs =>
    obtain ⟨ws, h1, h2⟩ := ho
    cases x with
    | tup ds =>
      have e' : (ds.mapM keyOf).map (fun k => getK kvs k) = some r := e
      rw [Option.map_eq_some_iff] at e'
      obtain ⟨k, k1, rfl⟩ := e'
      obtain ⟨b, vs, rfl, hb, rs⟩ := of_tup rx
      rw [keysOf_rep k1 rs] at hb
      exact ⟨valV ws k, DGet.t h1 hb, getK_rep h2⟩
    | _ => cases e

/-! ### data -/
mutual
theorem dp_of {K : PySem.W.Frag} {H : Hp} {α : List Addr} {S : Sto} (s : StR K H α S) : ∀ (f : Nat) (d : D) (v : V) (p : PyData), toPD S f d = some p → Rep K H α d v → Dp K H v p
  | 0, _, _, _, e, _ => by simp [toPD] at e
  | f + 1, d, v, p, e, r => by
    cases d with
    | non => simp only [toPD, Option.some.injEq] at e; subst e; rw [of_non r]; exact .non
    | bl b => simp only [toPD, Option.some.injEq] at e; subst e; rw [of_bl r]; exact .bl b
    | int i => simp only [toPD, Option.some.injEq] at e; subst e; rw [of_int r]; exact .int i
    | str x => simp only [toPD, Option.some.injEq] at e; subst e; rw [of_str r]; exact .str x
    | tup ds =>
      simp only [toPD, Option.map_eq_some_iff] at e
      obtain ⟨ps, e, rfl⟩ := e
      obtain ⟨a, vs, rfl, h, rs⟩ := of_tup r
      exact .tup (SqT.of h) (dps_of s f ds vs ps e rs)
    | fl ds =>
      simp only [toPD, Option.map_eq_some_iff] at e
      obtain ⟨ps, e, rfl⟩ := e
      obtain ⟨a, vs, rfl, h, rs⟩ := of_fl r
      exact .lst h.sq (dps_of s f ds vs ps e rs)
    | ref n =>
      simp only [toPD] at e
      split at e
      · rename_i ds q
        rw [Option.map_eq_some_iff] at e
        obtain ⟨ps, e, rfl⟩ := e
        obtain ⟨a, rfl, ha⟩ := of_ref r
        obtain ⟨vs, h, rs⟩ := s.lst q ha
        exact .lst (SqL.of h) (dps_of s f ds vs ps e rs)
      · cases e
theorem dps_of {K : PySem.W.Frag} {H : Hp} {α : List Addr} {S : Sto} (s : StR K H α S) : ∀ (f : Nat) (ds : List D) (vs : List V) (ps : List PyData), ds.mapM (toPD S f) = some ps → Reps K H α ds vs → DpAll K H vs ps
  | _, [], vs, ps, e, r => by
    cases e
    rw [r.nil_inv]
    exact .nil
  | f, d :: ds, vs, ps, e, r => by
    rw [List.mapM_cons] at e
    obtain ⟨v, t, rfl, r1, r2⟩ := r.cons_inv
    cases q : toPD S f d with
    | none => rw [q] at e; cases e
    | some p =>
      rw [q] at e
      cases q2 : ds.mapM (toPD S f) with
      | none => rw [q2] at e; cases e
      | some ps' =>
        rw [q2] at e
        cases e
        exact .cons (dp_of s f d v p q r1) (dps_of s f ds t ps' q2 r2)
end
mutual
theorem depth_of {S : Sto} : ∀ (f : Nat) (d : D) (p : PyData), toPD S f d = some p → p.depth ≤ f
  | 0, _, _, e => by simp [toPD] at e
  | f + 1, d, p, e => by
    cases d with
    | non => simp only [toPD, Option.some.injEq] at e; subst e; simp [PyData.depth]
    | bl b => simp only [toPD, Option.some.injEq] at e; subst e; simp [PyData.depth]
    | int i => simp only [toPD, Option.some.injEq] at e; subst e; simp [PyData.depth]
    | str x => simp only [toPD, Option.some.injEq] at e; subst e; simp [PyData.depth]
    | tup ds =>
      simp only [toPD, Option.map_eq_some_iff] at e
      obtain ⟨ps, e, rfl⟩ := e
      have := depths_of f ds ps e
      simp only [PyData.depth]
      omega
    | fl ds =>
      simp only [toPD, Option.map_eq_some_iff] at e
      obtain ⟨ps, e, rfl⟩ := e
      have := depths_of f ds ps e
      simp only [PyData.depth]
      omega
    | ref n =>
      simp only [toPD] at e
      split at e
      · rw [Option.map_eq_some_iff] at e
        obtain ⟨ps, e, rfl⟩ := e
        have := depths_of f _ ps e
        simp only [PyData.depth]
        omega
      · cases e
theorem depths_of {S : Sto} : ∀ (f : Nat) (ds : List D) (ps : List PyData), ds.mapM (toPD S f) = some ps → PyData.depthAll ps ≤ f
  | f, [], ps, e => by
    cases e
    simp [PyData.depthAll]
  | f, d :: ds, ps, e => by
    rw [List.mapM_cons] at e
    cases q : toPD S f d with
    | none => rw [q] at e; cases e
    | some p =>
      rw [q] at e
      cases q2 : ds.mapM (toPD S f) with
      | none => rw [q2] at e; cases e
      | some ps' =>
        rw [q2] at e
        cases e
        have h1 := depth_of f d p q
        have h2 := depths_of f ds ps' q2
        simp only [PyData.depthAll]
        omega
end
theorem shaped_of {S : Sto} {f : Nat} {d : D} {p : PyData} (e : toPD S f d = some p) (hf : f ≤ 64) (h : p.canLay0 = true) : SeqAt.shaped p = true := by
  have := depth_of f d p e
  show (p.canLay0 && decide (p.depth ≤ 64)) = true
  rw [h, Bool.true_and]
  exact decide_eq_true (by omega)
end G

/-! The engine, part 4: each operation of the language is the model's. -/
namespace G
open PySem PySem.Spec PyProof.Rows L2
def Bo.op : Bo → Operator
  | .add => .Add
  | .sub => .Sub
  | .mul => .Mult
  | .fdiv => .FloorDiv
  | .mod => .Mod
  | .pow => .Pow
def Co.op : Co → CmpOp
  | .eq => .Eq
  | .ne => .NotEq
  | .lt => .Lt
  | .le => .LtE
  | .gt => .Gt
  | .ge => .GtE
  | .is_ => .Is
  | .isn => .IsNot
  | .in_ => .In
  | .nin => .NotIn
section
variable {X : Cx}
abbrev rB (K : PySem.W.Frag) (o : Bo) : R2 := fun x y H Q => rVal K (l2 (binD o)) [x, y] H Q
theorem op_addG : OpR X (binaryOp .Add) (rB X.K .add) := by
  intro pins s σ H x y v u Q I rx ry h
  obtain ⟨PX, α, S, a, b, ra, rb, st, p⟩ := h.two
  cases a <;> cases b <;> first
    | exact (show False from p).elim
    | skip
  · rw [of_int ra] at rx
    rw [of_int rb] at ry
    exact op_add pins s σ H _ _ v u Q I rx ry ⟨_, _, rfl, rfl, ok_now st p rep_int⟩
  · rw [of_str ra] at rx
    rw [of_str rb] at ry
    rename_i z w
    simp only [binD] at p
    split at p
    · rename_i hz
      exact op_add_str pins s σ H _ _ v u Q I rx ry ⟨_, _, rfl, rfl, by rw [← lineN_eq]; exact hz, ok_now st p rep_str⟩
    · exact p.elim
  · obtain ⟨a, xs, rfl, ha, xr⟩ := of_tup ra
    obtain ⟨b, ys, rfl, hb, yr⟩ := of_tup rb
    rename_i ds es
    simp only [binD] at p
    split at p
    · rename_i hz
      refine op_catA pins s σ H _ _ v u Q I rx ry ⟨a, b, xs, ys, rfl, rfl, .of ha, .of hb, by rw [xr.length, yr.length, ← lineN_eq]; exact hz, fun e => ?_, fun _ e => ?_, fun _ _ q hq => ?_⟩
      · subst e
        have e2 : ds = [] := List.eq_nil_of_length_eq_zero xr.length.symm
        subst e2
        exact ok_now st p (rep_tup hb yr)
      · subst e
        have e2 : es = [] := List.eq_nil_of_length_eq_zero yr.length.symm
        subst e2
        rw [List.append_nil] at p
        exact ok_now st p (rep_tup ha xr)
      · exact ok_tup st p (xr.append yr) hq
    · exact p.elim
  · obtain ⟨a, rfl, ha⟩ := of_ref ra
    obtain ⟨b, rfl, hb⟩ := of_ref rb
    simp only [binD] at p
    split at p
    · rename_i xs ys e1 e2
      split at p
      · rename_i hz
        obtain ⟨vs, h1, r1⟩ := st.lst e1 ha
        obtain ⟨ws, h2, r2⟩ := st.lst e2 hb
        exact op_cat pins s σ H _ _ v u Q I rx ry ⟨a, b, vs, ws, rfl, rfl, h1, h2, by rw [r1.length, r2.length, ← lineN_eq]; exact hz, fun q hq => ok_lst st p (r1.append r2) hq⟩
      · exact p.elim
    · exact p.elim
theorem op_subG : OpR X (binaryOp .Sub) (rB X.K .sub) := by
  intro pins s σ H x y v u Q I rx ry h
  obtain ⟨PX, α, S, a, b, ra, rb, st, p⟩ := h.two
  cases a <;> cases b <;> first
    | exact (show False from p).elim
    | skip
  rw [of_int ra] at rx
  rw [of_int rb] at ry
  exact op_sub pins s σ H _ _ v u Q I rx ry ⟨_, _, rfl, rfl, ok_now st p rep_int⟩
theorem op_mulI : OpR X (binaryOp .Mult) (rI (fun i j => bitsOk i j = true) fun i j => .int (i * j)) := opI fun i j _ _ _ _ _ hc q =>
  mul_int q (.of_le (Nat.le_refl _) (Nat.le_refl _) (of_decide_eq_true hc))
theorem op_mulG : OpR X (binaryOp .Mult) (rB X.K .mul) := by
  intro pins s σ H x y v u Q I rx ry h
  obtain ⟨PX, α, S, a, b, ra, rb, st, p⟩ := h.two
  cases a <;> cases b <;> first
    | exact (show False from p).elim
    | skip
  · rw [of_int ra] at rx
    rw [of_int rb] at ry
    simp only [binD] at p
    split at p
    · rename_i hz
      exact op_mulI pins s σ H _ _ v u Q I rx ry ⟨_, _, rfl, rfl, hz, ok_now st p rep_int⟩
    · exact p.elim
  · obtain ⟨a, xs, rfl, ha, xr⟩ := of_tup ra
    rw [of_int rb] at ry
    simp only [binD] at p
    split at p
    · rename_i hz
      obtain ⟨h1, h2, h3, h4⟩ := hz
      have hl := xr.length
      refine op_repT pins s σ H _ _ v u Q I rx ry ⟨a, _, xs, rfl, rfl, .of ha, fun e => ?_, h1, by omega, by omega, fun q hq => ok_tup st p (xr.rep _) hq⟩
      rw [e, List.length_nil] at hl
      omega
    · exact p.elim
  · obtain ⟨a, rfl, ha⟩ := of_ref ra
    rw [of_int rb] at ry
    simp only [binD] at p
    split at p
    · rename_i xs e1
      split at p
      · rename_i hz
        obtain ⟨h1, h3⟩ := hz
        obtain ⟨vs, g1, r1⟩ := st.lst e1 ha
        exact op_rep pins s σ H _ _ v u Q I rx ry ⟨a, _, vs, rfl, rfl, g1, by omega, by omega, by rw [r1.length, ← lineN_eq]; exact h3, fun q hq => ok_lst st p (r1.rep _) hq⟩
      · exact p.elim
    · exact p.elim
theorem op_fdivI : OpR X (binaryOp .FloorDiv) (rI (fun i j => j ≠ 0 ∧ Builtin.Int.intBits j ≤ 9000) fun i j => .int (i.fdiv j)) := opI fun i j _ _ _ _ _ hc q => by
  refine floordiv_int hc.1 q (.inl (PyProof.noPylong_of_log2 ?_))
  have h := hc.2
  unfold Builtin.Int.intBits at h
  rw [if_neg (by simpa using hc.1)] at h
  omega
theorem op_fdivG : OpR X (binaryOp .FloorDiv) (rB X.K .fdiv) := by
  intro pins s σ H x y v u Q I rx ry h
  obtain ⟨PX, α, S, a, b, ra, rb, st, p⟩ := h.two
  cases a <;> cases b <;> first
    | exact (show False from p).elim
    | skip
  rw [of_int ra] at rx
  rw [of_int rb] at ry
  simp only [binD] at p
  split at p
  · rename_i hz
    exact op_fdivI pins s σ H _ _ v u Q I rx ry ⟨_, _, rfl, rfl, hz, ok_now st p rep_int⟩
  · exact p.elim
theorem op_modG : OpR X (binaryOp .Mod) (rB X.K .mod) := by
  intro pins s σ H x y v u Q I rx ry h
  obtain ⟨PX, α, S, a, b, ra, rb, st, p⟩ := h.two
  cases a <;> cases b <;> first
    | exact (show False from p).elim
    | skip
  rw [of_int ra] at rx
  rw [of_int rb] at ry
  simp only [binD] at p
  split at p
  · rename_i hz
    exact op_modN pins s σ H _ _ v u Q I rx ry ⟨_, _, rfl, rfl, hz, ok_now st p rep_int⟩
  · exact p.elim
theorem op_powG : OpR X (binaryOp .Pow) (rB X.K .pow) := by
  intro pins s σ H x y v u Q I rx ry h
  obtain ⟨PX, α, S, a, b, ra, rb, st, p⟩ := h.two
  cases a <;> cases b <;> first
    | exact (show False from p).elim
    | skip
  rw [of_int ra] at rx
  rw [of_int rb] at ry
  simp only [binD] at p
  split at p
  · rename_i hz
    exact op_pow pins s σ H _ _ v u Q I rx ry ⟨_, _, rfl, rfl, ⟨hz.1, by omega, hz.2.2⟩, ok_now st p rep_int⟩
  · exact p.elim
theorem op_bin (o : Bo) : OpR X (binaryOp o.op) (rB X.K o) := by
  cases o
  · exact op_addG
  · exact op_subG
  · exact op_mulG
  · exact op_fdivG
  · exact op_modG
  · exact op_powG
/-! comparisons -/
abbrev rC (K : PySem.W.Frag) (o : Co) : R2 := fun x y H Q => rVal K (l2 (cmpD o)) [x, y] H Q
theorem eqD_cases {S : Sto} {a b : D} {r : Bool} (h : eqD S a b = some r) : (∃ p q, toPD S 60 a = some p ∧ toPD S 60 b = some q ∧ p.canLay0 = true ∧ q.canLay0 = true ∧ r = PyData.eqv p q) ∨ ∃ x y, a = .str x ∧ b = .str y ∧ r = (x == y) := by
  have gen : (match toPD S 60 a, toPD S 60 b with
    | some x, some y => if x.canLay0 && y.canLay0 then some (PyData.eqv x y) else none
    | _, _ => none) = some r → ∃ p q, toPD S 60 a = some p ∧ toPD S 60 b = some q ∧ p.canLay0 = true ∧ q.canLay0 = true ∧ r = PyData.eqv p q := by
    intro e
    split at e
    · rename_i p q e1 e2
      split at e
      · rename_i hc
        rw [Bool.and_eq_true] at hc
        cases e
        exact ⟨p, q, e1, e2, hc.1, hc.2, rfl⟩
      · cases e
    · cases e
  unfold eqD at h
  split at h
  · cases h
    exact .inl ⟨.none, .none, rfl, rfl, by simp [PyData.canLay0], by simp [PyData.canLay0], by simp [PyData.eqv]⟩
  · cases h
    exact .inl ⟨.bool _, .bool _, rfl, rfl, by simp [PyData.canLay0], by simp [PyData.canLay0], by simp [PyData.eqv]⟩
  · cases h
    exact .inl ⟨.int _, .int _, rfl, rfl, by simp [PyData.canLay0], by simp [PyData.canLay0], by simp [PyData.eqv]⟩
  · cases h
    exact .inr ⟨_, _, rfl, rfl, rfl⟩
  · exact .inl (gen h)
theorem op_eqG (hu : X.A.units + 64 < cLine) : OpR X (compareOp .Eq) (rC X.K .eq) := by
  intro pins s σ H x y v u Q I rx ry h
  obtain ⟨PX, α, S, a, b, ra, rb, st, p⟩ := h.two
  simp only [cmpD, eqR] at p
  split at p
  · rename_i r e
    rw [Bool.bne_false] at p
    have fin : ∀ z, z = r → Q (.bl z) H := fun z e => by subst e; exact ok_now st p rep_bl
    rcases eqD_cases e with ⟨c, d, e1, e2, k1, k2, e3⟩ | ⟨i, j, rfl, rfl, e3⟩
    · exact op_eqD hu pins s σ H _ _ v u Q I rx ry ⟨c, d, dp_of st _ _ _ _ e1 ra, dp_of st _ _ _ _ e2 rb, shaped_of e1 (by decide) k1, shaped_of e2 (by decide) k2, fin _ e3.symm⟩
    · rw [of_str ra] at rx
      rw [of_str rb] at ry
      exact op_eq pins s σ H _ _ v u Q I rx ry ⟨rfl, fin _ (by rw [dec_str]; exact e3.symm)⟩
  · exact p.elim
theorem op_neG (hu : X.A.units + 64 < cLine) : OpR X (compareOp .NotEq) (rC X.K .ne) := by
  intro pins s σ H x y v u Q I rx ry h
  obtain ⟨PX, α, S, a, b, ra, rb, st, p⟩ := h.two
  simp only [cmpD, eqR] at p
  split at p
  · rename_i r e
    rw [Bool.bne_true] at p
    have fin : ∀ z, z = r → Q (.bl (!z)) H := fun z e => by subst e; exact ok_now st p rep_bl
    rcases eqD_cases e with ⟨c, d, e1, e2, k1, k2, e3⟩ | ⟨i, j, rfl, rfl, e3⟩
    · exact op_neD hu pins s σ H _ _ v u Q I rx ry ⟨c, d, dp_of st _ _ _ _ e1 ra, dp_of st _ _ _ _ e2 rb, shaped_of e1 (by decide) k1, shaped_of e2 (by decide) k2, fin _ e3.symm⟩
    · rw [of_str ra] at rx
      rw [of_str rb] at ry
      exact op_ne pins s σ H _ _ v u Q I rx ry ⟨rfl, fin _ (by rw [dec_str]; exact e3.symm)⟩
  · exact p.elim
theorem cmpI {op : CmpOp} {o : Co} {g : Int → Int → Bool} (h : OpR X (compareOp op) (rI0 fun i j => .bl (g i j)))
    (hd : ∀ a b S, cmpD o a b S = match a, b with
      | .int i, .int j => .ok (.bl (g i j)) S
      | _, _ => .bad) : OpR X (compareOp op) (rC X.K o) := by
  intro pins s σ H x y v u Q I rx ry q
  obtain ⟨PX, α, S, a, b, ra, rb, st, p⟩ := q.two
  rw [hd] at p
  cases a <;> cases b <;> first
    | exact (show False from p).elim
    | skip
  rw [of_int ra] at rx
  rw [of_int rb] at ry
  exact h pins s σ H _ _ v u Q I rx ry ⟨_, _, rfl, rfl, ok_now st p rep_bl⟩
theorem isB_cases {a b : D} {r : Bool} (h : isB a b = some r) : (b = .non ∧ r = isNon a) ∨ (∃ x y, a = .bl x ∧ b = .bl y ∧ r = (x == y)) := by
  unfold isB at h
  split at h <;> first
    | (cases h; exact .inl ⟨rfl, rfl⟩)
    | (cases h; exact .inr ⟨_, _, rfl, rfl, rfl⟩)
    | cases h
theorem non_iff {K : PySem.W.Frag} {H : Hp} {α : List Addr} {a : D} {x : V} (r : Rep K H α a x) : decide (x = .non) = isNon a := by
  cases a with
  | non => rw [of_non r]; rfl
  | bl b => rw [of_bl r]; rfl
  | int b => rw [of_int r]; rfl
  | str b => rw [of_str r]; rfl
  | tup b => obtain ⟨_, _, rfl, _⟩ := of_tup r; rfl
  | ref b => obtain ⟨_, rfl, _⟩ := of_ref r; rfl
  | fl b => obtain ⟨_, _, rfl, _⟩ := of_fl r; rfl
theorem op_isG : OpR X (compareOp .Is) (rC X.K .is_) := by
  intro pins s σ H x y v u Q I rx ry q
  obtain ⟨PX, α, S, a, b, ra, rb, st, p⟩ := q.two
  simp only [cmpD] at p
  split at p
  · rename_i r e
    have fin : ∀ z, z = r → Q (.bl z) H := fun z e => by subst e; exact ok_now st p rep_bl
    rcases isB_cases e with ⟨rfl, e2⟩ | ⟨i, j, rfl, rfl, e2⟩
    · rw [of_non rb] at ry
      exact op_isN pins s σ H _ _ v u Q I rx ry ⟨rfl, fin _ ((non_iff ra).trans e2.symm)⟩
    · rw [of_bl ra] at rx
      rw [of_bl rb] at ry
      exact op_isBl pins s σ H _ _ v u Q I rx ry ⟨_, _, rfl, rfl, fin _ (by rw [e2, Bool.beq_eq_decide_eq])⟩
  · exact p.elim
theorem op_isnG : OpR X (compareOp .IsNot) (rC X.K .isn) := by
  intro pins s σ H x y v u Q I rx ry q
  obtain ⟨PX, α, S, a, b, ra, rb, st, p⟩ := q.two
  simp only [cmpD] at p
  split at p
  · rename_i r e
    have fin : ∀ z, z = r → Q (.bl (!z)) H := fun z e => by subst e; exact ok_now st p rep_bl
    rcases isB_cases e with ⟨rfl, e2⟩ | ⟨i, j, rfl, rfl, e2⟩
    · rw [of_non rb] at ry
      exact op_notN pins s σ H _ _ v u Q I rx ry ⟨rfl, fin _ ((non_iff ra).trans e2.symm)⟩
    · rw [of_bl ra] at rx
      rw [of_bl rb] at ry
      exact op_notBl pins s σ H _ _ v u Q I rx ry ⟨_, _, rfl, rfl, fin _ (by rw [e2, Bool.beq_eq_decide_eq])⟩
  · exact p.elim
theorem canLay_list {qs : List PyData} (h : PyData.canLayAll0 qs = true) : (PyData.list qs).canLay0 = true := by simpa only [PyData.canLay0] using h
/-- in, by cases -/
theorem inD_cases {S : Sto} {n : Bool} {a b : D} {F : R D → Prop} (hF : F (inD S n a b)) (hb : ¬ F .bad) :
    (∃ k ys p qs, b = .ref k ∧ S[k]? = some (.lst ys) ∧ toPD S 60 a = some p ∧ ys.mapM (toPD S 60) = some qs ∧ p.canLay0 = true ∧ PyData.canLayAll0 qs = true ∧ F (.ok (.bl ((qs.any fun z => PyData.eqv z p) != n)) S)) ∨
    (∃ k o r, b = .ref k ∧ S[k]? = some o ∧ dictGet o a = some r ∧ F (.ok (.bl (r.isSome != n)) S)) := by
  unfold inD at hF
  split at hF
  · split at hF
    · rename_i k _ ys e
      split at hF
      · rename_i p qs e1 e2
        split at hF
        · rename_i hc
          rw [Bool.and_eq_true] at hc
          exact .inl ⟨k, ys, p, qs, rfl, e, e1, e2, hc.1, hc.2, hF⟩
        · exact (hb hF).elim
      · exact (hb hF).elim
    · rename_i k _ o e1 e
      split at hF
      · rename_i r e2
        exact .inr ⟨k, o, r, rfl, e, e2, hF⟩
      · exact (hb hF).elim
    · exact (hb hF).elim
  · exact (hb hF).elim
theorem OR.isSome {K : PySem.W.Frag} {H : Hp} {α : List Addr} {r : Option D} {q : Option V} (h : OR K H α r q) : q.isSome = r.isSome := by
  cases r with
  | none => rw [show q = none from h]; rfl
  | some d => obtain ⟨v, e, _⟩ := h; rw [e]; rfl
theorem op_inG (hu : X.A.units + 65 < cLine) : OpR X (compareOp .In) (rC X.K .in_) := by
  intro pins s σ H x y v u Q I rx ry q
  obtain ⟨PX, α, S, a, b, ra, rb, st, p⟩ := q.two
  rcases inD_cases (F := fun r => Pst X.K PX α H r (VF X.K Q)) p (fun z => z) with ⟨k, ys, pa, qs, rfl, e, e1, e2, k1, k2, p⟩ | ⟨k, o, r, rfl, e, e1, p⟩
  · obtain ⟨ad, rfl, ha⟩ := of_ref rb
    obtain ⟨vs, h1, r1⟩ := st.lst e ha
    have hd := depths_of _ _ _ e2
    refine op_inD hu pins s σ H _ _ v u Q I rx ry ⟨pa, qs, dp_of st _ _ _ _ e1 ra, .lst (.of h1) (dps_of st _ _ _ _ e2 r1), shaped_of e1 (by decide) k1, ?_, ?_⟩
    · show ((PyData.list qs).canLay0 && decide ((PyData.list qs).depth ≤ 64)) = true
      rw [canLay_list k2, Bool.true_and]
      refine decide_eq_true ?_
      simp only [PyData.depth]
      omega
    · rw [Bool.bne_false] at p
      exact ok_now st p rep_bl
  · obtain ⟨ad, rfl, ha⟩ := of_ref rb
    obtain ⟨q, g, ho⟩ := dget_rep (st.obj k o ad e ha) ra e1
    cases ry
    refine d_in (by omega) I g rx fun s' I' => ⟨.bl q.isSome, H, I', rfl, ?_⟩
    rw [ho.isSome]
    rw [Bool.bne_false] at p
    exact ok_now st p rep_bl
theorem op_ninG (hu : X.A.units + 65 < cLine) : OpR X (compareOp .NotIn) (rC X.K .nin) := by
  intro pins s σ H x y v u Q I rx ry q
  obtain ⟨PX, α, S, a, b, ra, rb, st, p⟩ := q.two
  rcases inD_cases (F := fun r => Pst X.K PX α H r (VF X.K Q)) p (fun z => z) with ⟨k, ys, pa, qs, rfl, e, e1, e2, k1, k2, p⟩ | ⟨k, o, r, rfl, e, e1, p⟩
  · obtain ⟨ad, rfl, ha⟩ := of_ref rb
    obtain ⟨vs, h1, r1⟩ := st.lst e ha
    have hd := depths_of _ _ _ e2
    refine op_notInD hu pins s σ H _ _ v u Q I rx ry ⟨pa, qs, dp_of st _ _ _ _ e1 ra, .lst (.of h1) (dps_of st _ _ _ _ e2 r1), shaped_of e1 (by decide) k1, ?_, ?_⟩
    · show ((PyData.list qs).canLay0 && decide ((PyData.list qs).depth ≤ 64)) = true
      rw [canLay_list k2, Bool.true_and]
      refine decide_eq_true ?_
      simp only [PyData.depth]
      omega
    · rw [Bool.bne_true] at p
      exact ok_now st p rep_bl
  · obtain ⟨ad, rfl, ha⟩ := of_ref rb
    obtain ⟨q, g, ho⟩ := dget_rep (st.obj k o ad e ha) ra e1
    cases ry
    refine d_notIn (by omega) I g rx fun s' I' => ⟨.bl (!q.isSome), H, I', rfl, ?_⟩
    rw [ho.isSome]
    rw [Bool.bne_true] at p
    exact ok_now st p rep_bl
theorem op_cmp (hu : X.A.units + 65 < cLine) (o : Co) : OpR X (compareOp o.op) (rC X.K o) := by
  cases o
  · exact op_eqG (by omega)
  · exact op_neG (by omega)
  · exact cmpI op_lt fun _ _ _ => rfl
  · exact cmpI op_le fun _ _ _ => rfl
  · exact cmpI op_gt fun _ _ _ => rfl
  · exact cmpI op_ge fun _ _ _ => rfl
  · exact op_isG
  · exact op_isnG
  · exact op_inG hu
  · exact op_ninG hu
/-! subscripts -/
theorem atI_rep {K : PySem.W.Frag} {H : Hp} {α : List Addr} {ds : List D} {vs : List V} {i : Int} {d : D} (r : Reps K H α ds vs) (e : atI ds i = some d) : ∃ v, atI vs i = some v ∧ Rep K H α d v := by
  unfold atI at e ⊢
  rw [r.length]
  cases q : ixN ds.length i with
  | none => rw [q] at e; cases e
  | some j =>
    rw [q] at e
    exact r.get e
theorem ix_dict (hu : X.A.units + 1 < cLine) : IxR X (fun x y H Q => ∃ a v, x = .ref a ∧ DGet H a y (some v) ∧ Q v H) := by
  intro value slice pins s σ H x y v u Q I rx ry h hs
  obtain ⟨a, w, rfl, g, q⟩ := h
  cases rx
  exact tail_any (dict_typeIs I g) PySem.F.slot_dict_getitem.lookup (d_getItem hu I g ry fun w' s3 I3 rw' => ⟨w, H, I3, rw', q⟩) hs
abbrev rIxG (K : PySem.W.Frag) : R2 := fun x y H Q => rVal K (l2 ixD) [x, y] H Q
theorem ix_all (hu : X.A.units + 1 < cLine) : IxR X (rIxG X.K) := by
  intro value slice pins s σ H x y v u Q I rx ry h hs
  obtain ⟨PX, α, S, a, b, ra, rb, st, p⟩ := h.two
  unfold ixD at p
  split at p
  · rename_i ds i
    rw [of_int rb] at ry
    obtain ⟨ad, xs, rfl, hh, rs⟩ := of_tup ra
    split at p
    · rename_i d e
      obtain ⟨w, e1, e2⟩ := atI_rep rs e
      exact ix_tup value slice pins s σ H _ _ v u Q I rx ry ⟨ad, xs, _, w, rfl, rfl, .of hh, e1, ok_now st p e2⟩ hs
    · exact p.elim
  · rename_i ds i
    rw [of_int rb] at ry
    obtain ⟨ad, xs, rfl, hh, rs⟩ := of_fl ra
    split at p
    · rename_i d e
      obtain ⟨w, e1, e2⟩ := atI_rep rs e
      exact ix_list value slice pins s σ H _ _ v u Q I rx ry ⟨ad, xs, _, w, rfl, rfl, hh.sq, e1, ok_now st p e2⟩ hs
    · exact p.elim
  · rename_i n
    obtain ⟨ad, rfl, ha⟩ := of_ref ra
    split at p
    · rename_i ds e
      split at p
      · rename_i i
        rw [of_int rb] at ry
        split at p
        · rename_i d e0
          obtain ⟨vs, h1, rs⟩ := st.lst e ha
          obtain ⟨w, e1, e2⟩ := atI_rep rs e0
          exact ix_list value slice pins s σ H _ _ v u Q I rx ry ⟨ad, vs, _, w, rfl, rfl, .of h1, e1, ok_now st p e2⟩ hs
        · exact p.elim
      · exact p.elim
    · rename_i o e1 e
      split at p
      · rename_i d e2
        obtain ⟨q, g, ho⟩ := dget_rep (st.obj n o ad e ha) rb e2
        obtain ⟨w, rfl, rw'⟩ := ho
        exact ix_dict hu value slice pins s σ H _ _ v u Q I rx ry ⟨ad, w, rfl, g, ok_now st p rw'⟩ hs
      · exact p.elim
    · exact p.elim
  · exact p.elim
end
end G

/-! The engine, part 5: built-ins, methods, slices, truth. -/
namespace G
open PySem PySem.Spec PyProof.Rows L2
mutual
theorem nodict_of {S : Sto} : ∀ (f : Nat) (d : D) (p : PyData), toPD S f d = some p → p.hasDict = false
  | 0, _, _, e => by simp [toPD] at e
  | f + 1, d, p, e => by
    cases d with
    | non => simp only [toPD, Option.some.injEq] at e; subst e; simp [PyData.hasDict]
    | bl b => simp only [toPD, Option.some.injEq] at e; subst e; simp [PyData.hasDict]
    | int i => simp only [toPD, Option.some.injEq] at e; subst e; simp [PyData.hasDict]
    | str x => simp only [toPD, Option.some.injEq] at e; subst e; simp [PyData.hasDict]
    | tup ds =>
      simp only [toPD, Option.map_eq_some_iff] at e
      obtain ⟨ps, e, rfl⟩ := e
      simp only [PyData.hasDict]
      exact nodicts_of f ds ps e
    | fl ds =>
      simp only [toPD, Option.map_eq_some_iff] at e
      obtain ⟨ps, e, rfl⟩ := e
      simp only [PyData.hasDict]
      exact nodicts_of f ds ps e
    | ref n =>
      simp only [toPD] at e
      split at e
      · rw [Option.map_eq_some_iff] at e
        obtain ⟨ps, e, rfl⟩ := e
        simp only [PyData.hasDict]
        exact nodicts_of f _ ps e
      · cases e
theorem nodicts_of {S : Sto} : ∀ (f : Nat) (ds : List D) (ps : List PyData), ds.mapM (toPD S f) = some ps → PyData.hasDictAll ps = false
  | f, [], ps, e => by
    cases e
    simp [PyData.hasDictAll]
  | f, d :: ds, ps, e => by
    rw [List.mapM_cons] at e
    cases q : toPD S f d with
    | none => rw [q] at e; cases e
    | some p =>
      rw [q] at e
      cases q2 : ds.mapM (toPD S f) with
      | none => rw [q2] at e; cases e
      | some ps' =>
        rw [q2] at e
        cases e
        have h1 := nodict_of f d p q
        have h2 := nodicts_of f ds ps' q2
        simp only [PyData.hasDictAll, h1, h2, Bool.or_self]
end
/-- a built-in's value; its name -/
def Bi.fn : Bi → Value
  | .len => .builtin "len"
  | .int => .type "int"
  | .abs => .builtin "abs"
  | .max2 => .builtin "max"
  | .min2 => .builtin "min"
  | .sum => .builtin "sum"
  | .tuple => .type "tuple"
  | .list => .type "list"
  | .repr => .builtin "repr"
def Bi.nm : Bi → Str
  | .len => "len"
  | .int => "int"
  | .abs => "abs"
  | .max2 => "max"
  | .min2 => "min"
  | .sum => "sum"
  | .tuple => "tuple"
  | .list => "list"
  | .repr => "repr"
section
variable {X : Cx}
theorem Dp.ref_of {K : PySem.W.Frag} {H : Hp} {v : V} {p : PyData} (h : Dp K H v p) : (∃ a, v = .ref a) ∨ (v = .non ∧ p = .none) ∨ (∃ b, v = .bl b ∧ p = .bool b) ∨ (∃ i, v = .int i ∧ p = .int i) ∨ ∃ x, v = .str x ∧ p = .str x := by
  cases h with
  | non => exact .inr (.inl ⟨rfl, rfl⟩)
  | bl b => exact .inr (.inr (.inl ⟨b, rfl, rfl⟩))
  | int i => exact .inr (.inr (.inr (.inl ⟨i, rfl, rfl⟩)))
  | str x => exact .inr (.inr (.inr (.inr ⟨x, rfl, rfl⟩)))
  | lst _ _ => exact .inl ⟨_, rfl⟩
  | tup _ _ => exact .inl ⟨_, rfl⟩
/-- repr of data -/
theorem call_reprD (hg : X.A.guards = some []) (hu : X.A.units + 65 < cLine) : CallR X (.builtin "repr") (fun xs H Q => ∃ x p, xs = [x] ∧ Dp X.K H x p ∧ p.showable = true ∧ p.hasDict = false ∧ p.depth ≤ 60 ∧ p.shown.length ≤ sizeLine ∧ Q (.str p.shown) H) := by
  intro pins s σ H xs us Q I r h
  obtain ⟨x, p, rfl, hd, h1, h2, h3, h4, q⟩ := h
  obtain ⟨u, rfl, ru⟩ := vals1 r
  rcases Dp.ref_of hd with ⟨a, rfl⟩ | ⟨rfl, rfl⟩ | ⟨b, rfl, rfl⟩ | ⟨i, rfl, rfl⟩ | ⟨z, rfl, rfl⟩
  · cases ru
    obtain ⟨as, rd⟩ := Dp.reads I p _ _ hd rfl
    refine repr_of_reads' rd h1 (PyData.noDict_hsm h2) hg (by omega) (fun _ _ e => e) (fun h' u tk hk => ⟨.str p.shown, H, I.kept hk, ⟨_, rfl⟩, q⟩) h4
  · cases ru
    simp only [PyData.shown] at q
    exact PySem.P.repr_of_none ⟨.str _, H, I.tok _, ⟨_, rfl⟩, q⟩
  · cases ru
    simp only [PyData.shown] at q
    exact PySem.P.repr_of_bool ⟨.str _, H, I.tok _, ⟨_, rfl⟩, q⟩
  · obtain ⟨t, rfl⟩ := ru
    simp only [PyData.shown] at q
    exact PySem.P.repr_of_int (by simpa [PyData.showable] using h1) ⟨.str _, H, I.tok _, ⟨_, rfl⟩, q⟩
  · obtain ⟨t, rfl⟩ := ru
    simp only [PyData.shown] at q h4
    exact PySem.P.repr_of_str ⟨.str _, H, I.tok _, ⟨_, rfl⟩, q⟩ h4
abbrev rBi (K : PySem.W.Frag) (b : Bi) : List V → Hp → VK → Prop := fun xs H Q => rVal K (bltD b) xs H Q
theorem Reps.one {K : PySem.W.Frag} {H : Hp} {α : List Addr} {d : D} {xs : List V} (h : Reps K H α [d] xs) : ∃ x, xs = [x] ∧ Rep K H α d x := by
  obtain ⟨v, t, rfl, r, t'⟩ := h.cons_inv
  rw [t'.nil_inv]
  exact ⟨v, rfl, r⟩
theorem Reps.two {K : PySem.W.Frag} {H : Hp} {α : List Addr} {d e : D} {xs : List V} (h : Reps K H α [d, e] xs) : ∃ x y, xs = [x, y] ∧ Rep K H α d x ∧ Rep K H α e y := by
  obtain ⟨v, t, rfl, r, t'⟩ := h.cons_inv
  obtain ⟨u, rfl, r2⟩ := t'.one
  exact ⟨v, u, rfl, r, r2⟩
theorem call_bi (hc : X.calm = true) (hg : X.A.guards = some []) (hu : X.A.units + 65 < cLine) (b : Bi) : CallR X b.fn (rBi X.K b) := by
  intro pins s σ H xs us Q I r h
  obtain ⟨PX, α, S, ds, rs, st, p⟩ := h
  unfold bltD at p
  split at p
  · rename_i x
    obtain ⟨v, rfl, rv⟩ := rs.one
    rw [of_str rv] at r
    split at p
    · rename_i hz
      exact call_len_str pins s σ H _ us Q I r ⟨x, rfl, by rw [← lineN_eq]; exact hz, ok_now st p rep_int⟩
    · exact p.elim
  · rename_i ds
    obtain ⟨v, rfl, rv⟩ := rs.one
    obtain ⟨a, vs, rfl, h1, h2⟩ := of_tup rv
    exact call_len_seq pins s σ H _ us Q I r ⟨a, vs, rfl, .inr (.of h1), by rw [h2.length]; exact ok_now st p rep_int⟩
  · rename_i ds
    obtain ⟨v, rfl, rv⟩ := rs.one
    obtain ⟨a, vs, rfl, h1, h2⟩ := of_fl rv
    exact call_len_seq pins s σ H _ us Q I r ⟨a, vs, rfl, .inl h1.sq, by rw [h2.length]; exact ok_now st p rep_int⟩
  · rename_i n
    obtain ⟨v, rfl, rv⟩ := rs.one
    obtain ⟨a, rfl, ha⟩ := of_ref rv
    split at p
    · rename_i ds e
      obtain ⟨vs, h1, h2⟩ := st.lst e ha
      exact call_len_seq pins s σ H _ us Q I r ⟨a, vs, rfl, .inl (.of h1), by rw [h2.length]; exact ok_now st p rep_int⟩
    · rename_i kvs e
      obtain ⟨ws, h1, h2⟩ := st.obj n _ a e ha
      exact call_lenD pins s σ H _ us Q I r ⟨a, ws, rfl, h1, by rw [repKV_len h2]; exact ok_now st p rep_int⟩
    · rename_i kvs e
      obtain ⟨ws, h1, h2⟩ := st.obj n _ a e ha
      exact call_len_dT pins s σ H _ us Q I r ⟨a, ws, rfl, h1, by rw [repKV_len h2]; exact ok_now st p rep_int⟩
    · exact p.elim
  · rename_i i
    obtain ⟨v, rfl, rv⟩ := rs.one
    rw [of_int rv] at r
    exact call_int1 pins s σ H _ us Q I r (.inl ⟨i, rfl, ok_now st p rep_int⟩)
  · rename_i k
    obtain ⟨v, rfl, rv⟩ := rs.one
    rw [of_bl rv] at r
    exact call_int1 pins s σ H _ us Q I r (.inr ⟨k, rfl, ok_now st p rep_int⟩)
  · rename_i i
    obtain ⟨v, rfl, rv⟩ := rs.one
    rw [of_int rv] at r
    exact call_abs pins s σ H _ us Q I r ⟨i, rfl, ok_now st p rep_int⟩
  · rename_i i j
    obtain ⟨v, w, rfl, rv, rw'⟩ := rs.two
    rw [of_int rv, of_int rw'] at r
    exact call_max2 hc pins s σ H _ us Q I r ⟨i, j, rfl, ok_now st p rep_int⟩
  · rename_i i j
    obtain ⟨v, w, rfl, rv, rw'⟩ := rs.two
    rw [of_int rv, of_int rw'] at r
    exact call_min2 hc pins s σ H _ us Q I r ⟨i, j, rfl, ok_now st p rep_int⟩
  · rename_i ds
    obtain ⟨v, rfl, rv⟩ := rs.one
    obtain ⟨a, vs, rfl, h1, h2⟩ := of_fl rv
    split at p
    · rename_i is e
      rw [h2.ints e] at h1
      exact cr_sum hc pins s σ H _ us Q I r ⟨a, is, rfl, h1.sq, ok_now st p rep_int⟩
    · exact p.elim
  · rename_i n
    obtain ⟨v, rfl, rv⟩ := rs.one
    obtain ⟨a, rfl, ha⟩ := of_ref rv
    split at p
    · rename_i ds e0
      split at p
      · rename_i is e
        obtain ⟨vs, h1, h2⟩ := st.lst e0 ha
        rw [h2.ints e] at h1
        exact cr_sum hc pins s σ H _ us Q I r ⟨a, is, rfl, .of h1, ok_now st p rep_int⟩
      · exact p.elim
    · exact p.elim
  · rename_i ds
    obtain ⟨v, rfl, rv⟩ := rs.one
    obtain ⟨a, vs, rfl, h1, h2⟩ := of_tup rv
    exact call_tuple_of pins s σ H _ us Q I r ⟨a, vs, rfl, .inr ⟨.of h1, ok_now st p (rep_tup h1 h2)⟩⟩
  · rename_i ds
    obtain ⟨v, rfl, rv⟩ := rs.one
    obtain ⟨a, vs, rfl, h1, h2⟩ := of_fl rv
    exact call_tuple_of pins s σ H _ us Q I r ⟨a, vs, rfl, .inl ⟨h1.sq, fun l hl => ok_tup st p h2 hl⟩⟩
  · rename_i n
    obtain ⟨v, rfl, rv⟩ := rs.one
    obtain ⟨a, rfl, ha⟩ := of_ref rv
    split at p
    · rename_i ds e0
      obtain ⟨vs, h1, h2⟩ := st.lst e0 ha
      exact call_tuple_of pins s σ H _ us Q I r ⟨a, vs, rfl, .inl ⟨.of h1, fun l hl => ok_tup st p h2 hl⟩⟩
    · exact p.elim
  · rename_i ds
    obtain ⟨v, rfl, rv⟩ := rs.one
    obtain ⟨a, vs, rfl, h1, h2⟩ := of_tup rv
    exact call_list_of pins s σ H _ us Q I r ⟨a, vs, rfl, .inr (.of h1), fun l hl => ok_lst st p h2 hl⟩
  · rename_i ds
    obtain ⟨v, rfl, rv⟩ := rs.one
    obtain ⟨a, vs, rfl, h1, h2⟩ := of_fl rv
    exact call_list_of pins s σ H _ us Q I r ⟨a, vs, rfl, .inl h1.sq, fun l hl => ok_lst st p h2 hl⟩
  · rename_i n
    obtain ⟨v, rfl, rv⟩ := rs.one
    obtain ⟨a, rfl, ha⟩ := of_ref rv
    split at p
    · rename_i ds e0
      obtain ⟨vs, h1, h2⟩ := st.lst e0 ha
      exact call_list_of pins s σ H _ us Q I r ⟨a, vs, rfl, .inl (.of h1), fun l hl => ok_lst st p h2 hl⟩
    · exact p.elim
  · rename_i d
    obtain ⟨v, rfl, rv⟩ := rs.one
    split at p
    · rename_i pd e
      split at p
      · rename_i hz
        rw [Bool.and_eq_true] at hz
        exact call_reprD hg hu pins s σ H _ us Q I r ⟨v, pd, rfl, dp_of st _ _ _ _ e rv, hz.1, nodict_of _ _ _ e, depth_of _ _ _ e, by rw [← lineN_eq]; exact of_decide_eq_true hz.2, ok_now st p rep_str⟩
      · exact p.elim
    · exact p.elim
  · exact p.elim
/-! methods of lists -/
def Mt.id : Mt → String
  | .app => "list.append"
  | .pop => "list.pop"
  | .ext => "list.extend"
def Mt.nm : Mt → Str
  | .app => "append"
  | .pop => "pop"
  | .ext => "extend"
abbrev rMt (K : PySem.W.Frag) (m : Mt) : V → List V → Hp → VK → Prop := fun x xs H Q => ∃ (PX : PXT) (α : List Addr) (S : Sto) (d : D) (ds : List D), Rep K H α d x ∧ Reps K H α ds xs ∧ StR K H α S ∧ Pst K PX α H (metD m d ds S) (VF K Q)
theorem ok_write {K : PySem.W.Frag} {PX : PXT} {α : List Addr} {H : Hp} {S : Sto} {Q : VK} {n : Nat} {a : Addr} {ds : List D} {vs ws : List V} {d : D} {v : V} (st : StR K H α S) (ha : α[n]? = some a) (h1 : H a = some (.lst vs)) (p : Pst K PX α H (.ok d (S.set n (.lst ds))) (VF K Q))
    (rv : Rep K H α d v) (rs : Reps K H α ds ws) : Q v (upd H a (.lst ws)) := by
  have e : Ext α H α (upd H a (.lst ws)) := .write (List.mem_of_getElem? ha) h1 rfl
  exact p α _ (st.write ha h1 rfl ⟨ws, upd_same, rs.mono e _ _⟩) e v (rv.mono e _ _)
theorem seqIx_of {n : Nat} {i : Int} {j : Nat} (h : ixN n i = some j) : seqIndex? i n = some j ∧ j < n ∧ -(n : Int) ≤ i ∧ i < n := ixN_seq h
theorem mt_all (m : Mt) : MtR X m.id (rMt X.K m) := by
  intro pins s σ H x xs v us Q I rx rxs h
  obtain ⟨PX, α, S, d, ds, rd, rs, st, p⟩ := h
  unfold metD at p
  split at p
  · rename_i n
    obtain ⟨a, rfl, ha⟩ := of_ref rd
    split at p
    · rename_i es e0
      obtain ⟨vs, h1, h2⟩ := st.lst e0 ha
      have hl := h2.length
      split at p
      · rename_i y
        obtain ⟨w, rfl, rw'⟩ := rs.one
        split at p
        · rename_i hz
          exact mt_append pins s σ H _ _ v us Q I rx rxs ⟨a, vs, w, rfl, rfl, h1, by rw [hl, ← lineN_eq]; exact hz, ok_write st ha h1 p rep_non (h2.append (.cons rw' .nil))⟩
        · exact p.elim
      · have e2 := rs.nil_inv
        subst e2
        split at p
        · rename_i y ey
          rw [List.getLast?_eq_getElem?] at ey
          obtain ⟨w, e3, rw'⟩ := h2.get ey
          refine mt_pop pins s σ H _ _ v us Q I rx rxs ⟨a, vs, w, rfl, rfl, h1, by rw [hl]; exact e3, ?_⟩
          refine ok_write st ha h1 p rw' ?_
          rw [List.dropLast_eq_take, List.dropLast_eq_take, hl]
          exact h2.take _
        · exact p.elim
      · rename_i i
        obtain ⟨w, rfl, rw'⟩ := rs.one
        rw [of_int rw'] at rxs
        split at p
        · rename_i j ej
          split at p
          · rename_i y ey
            obtain ⟨z, e3, rz⟩ := h2.get ey
            obtain ⟨k1, k2, k3, k4⟩ := seqIx_of ej
            have hz : vs.length ≤ sizeLine := (I.lstM h1).1
            have hs : sizeLine = 16777216 := sizeLine_eq
            exact mt_popAt pins s σ H _ _ v us Q I rx rxs ⟨a, vs, i, j, z, rfl, rfl, h1, by omega, by omega, by rw [hl]; exact k1, e3, ok_write st ha h1 p rz (h2.erase j)⟩
          · exact p.elim
        · exact p.elim
      · rename_i k
        obtain ⟨w, rfl, rw'⟩ := rs.one
        obtain ⟨b, rfl, hb⟩ := of_ref rw'
        split at p
        · rename_i fs e3
          split at p
          · rename_i hz
            obtain ⟨ws, g1, g2⟩ := st.lst e3 hb
            exact mt_extend pins s σ H _ _ v us Q I rx rxs ⟨a, b, vs, ws, rfl, rfl, h1, g1, by rw [hl, g2.length, ← lineN_eq]; exact hz, ok_write st ha h1 p rep_non (h2.append g2)⟩
          · exact p.elim
        · exact p.elim
      · exact p.elim
    · exact p.elim
  · exact p.elim
/-- the receiver is a list -/
theorem met_list {K : PySem.W.Frag} {PX : PXT} {α : List Addr} {H : Hp} {S : Sto} {m : Mt} {d : D} {ds : List D} {F : D → List Addr → Hp → Sto → Prop} (h : Pst K PX α H (metD m d ds S) F) : ∃ n es, d = .ref n ∧ S[n]? = some (.lst es) := by
  unfold metD at h
  split at h
  · split at h
    · rename_i n _ es e
      exact ⟨n, es, rfl, e⟩
    · exact h.elim
  · exact h.elim
/-! truth -/
def rTru (K : PySem.W.Frag) : V → Hp → (Bool → Hp → Prop) → Prop := fun x H Q => ∃ (PX : PXT) (α : List Addr) (S : Sto) (d : D), Rep K H α d x ∧ StR K H α S ∧ Pst K PX α H (truth d S) (fun b _ H' _ => Q b H')
theorem isEmpty_of {K : PySem.W.Frag} {H : Hp} {α : List Addr} {ds : List D} {vs : List V} (h : Reps K H α ds vs) : vs.isEmpty = ds.isEmpty := by
  cases ds with
  | nil => rw [h.nil_inv]; rfl
  | cons d ds => obtain ⟨_, _, rfl, _, _⟩ := h.cons_inv; rfl
theorem isEmptyKV_of {κ : Type} {K : PySem.W.Frag} {H : Hp} {α : List Addr} {ds : List (κ × D)} {vs : List (κ × V)} (h : RepKV K H α ds vs) : vs.isEmpty = ds.isEmpty := by
  cases h <;> rfl
theorem truV_of {K : PySem.W.Frag} {PX : PXT} {α : List Addr} {H : Hp} {S : Sto} {d : D} {x : V} {Q : Bool → Hp → Prop} (rd : Rep K H α d x) (st : StR K H α S) (p : Pst K PX α H (truth d S) (fun b _ H' _ => Q b H')) : ∃ k, TruV K x H k ∧ Q k H := by
  cases d with
  | non => rw [of_non rd]; exact ⟨false, rfl, p α H st .refl⟩
  | bl b => rw [of_bl rd]; exact ⟨b, rfl, p α H st .refl⟩
  | int i => rw [of_int rd]; exact ⟨_, rfl, p α H st .refl⟩
  | str y =>
    rw [of_str rd]
    simp only [truth] at p
    split at p
    · rename_i hz
      refine ⟨_, ⟨by rw [← lineN_eq]; exact hz, rfl⟩, ?_⟩
      have e : ((y.length : Int) != 0) = (y.length != 0) := by
        by_cases h : y.length = 0
        · rw [h]; rfl
        · have h1 : ((y.length : Int) != 0) = true := bne_iff_ne.mpr (by omega)
          have h2 : (y.length != 0) = true := bne_iff_ne.mpr h
          rw [h1, h2]
      rw [e]
      exact p α H st .refl
    · exact p.elim
  | tup ds =>
    obtain ⟨a, vs, rfl, h1, h2⟩ := of_tup rd
    exact ⟨_, .inr (.inl ⟨vs, .of h1, by rw [isEmpty_of h2]⟩), p α H st .refl⟩
  | fl ds =>
    obtain ⟨a, vs, rfl, h1, h2⟩ := of_fl rd
    exact ⟨_, .inl ⟨vs, h1.sq, by rw [isEmpty_of h2]⟩, p α H st .refl⟩
  | ref n =>
    obtain ⟨a, rfl, ha⟩ := of_ref rd
    simp only [truth] at p
    split at p
    · rename_i ds e
      obtain ⟨vs, h1, h2⟩ := st.lst e ha
      exact ⟨_, .inl ⟨vs, .of h1, by rw [isEmpty_of h2]⟩, p α H st .refl⟩
    · rename_i kvs e
      obtain ⟨ws, h1, h2⟩ := st.obj n _ a e ha
      exact ⟨_, .inr (.inr ⟨ws, h1, by rw [isEmptyKV_of h2]⟩), p α H st .refl⟩
    · exact p.elim
/-! slices -/
theorem cut_rep {K : PySem.W.Frag} {H : Hp} {α : List Addr} {ds : List D} {vs : List V} (h : Reps K H α ds vs) (lo hi : Option Int) : Reps K H α (cut ds lo hi) (cutV vs lo hi) := by
  unfold cut cutV
  rw [h.length]
  exact (h.drop _).take _
theorem cut_all {α : Type} {xs : List α} {lo hi : Option Int} (h : HT.sIx xs.length 0 lo = 0 ∧ HT.sIx xs.length xs.length hi = xs.length) : cut xs lo hi = xs := by
  unfold cut
  rw [h.1, h.2, List.drop_zero, Nat.sub_zero, List.take_length]
def rSlG (K : PySem.W.Frag) : V → Option Int → Option Int → Hp → VK → Prop := fun x lo hi H Q => ∃ (PX : PXT) (α : List Addr) (S : Sto) (d : D), Rep K H α d x ∧ StR K H α S ∧ Pst K PX α H (slD d lo hi S) (VF K Q)
theorem sl_all : SlR X (rSlG X.K) := by
  intro pins s σ H x v vl vu lo hi sl Q I rx hs pl pu h
  obtain ⟨PX, α, S, d, rd, st, p⟩ := h
  unfold slD at p
  split at p
  · rename_i ds
    obtain ⟨a, vs, rfl, h1, h2⟩ := of_tup rd
    have hl := h2.length
    refine sl_tupA pins s σ H _ v vl vu lo hi sl Q I rx hs pl pu ⟨a, vs, rfl, .of h1, fun hw => ?_, fun _ q hq => ok_tup st p (cut_rep h2 lo hi) hq⟩
    rw [hl] at hw
    rw [cut_all hw] at p
    exact ok_now st p (rep_tup h1 h2)
  · rename_i ds
    obtain ⟨a, vs, rfl, h1, h2⟩ := of_fl rd
    exact sl_list pins s σ H _ v vl vu lo hi sl Q I rx hs pl pu ⟨a, vs, rfl, h1.sq, fun q hq => ok_lst st p (cut_rep h2 lo hi) hq⟩
  · rename_i n
    obtain ⟨a, rfl, ha⟩ := of_ref rd
    split at p
    · rename_i ds e
      obtain ⟨vs, h1, h2⟩ := st.lst e ha
      exact sl_list pins s σ H _ v vl vu lo hi sl Q I rx hs pl pu ⟨a, vs, rfl, .of h1, fun q hq => ok_lst st p (cut_rep h2 lo hi) hq⟩
    · exact p.elim
  · exact p.elim
/-! o[i] = v -/
def rPut (K : PySem.W.Frag) : TSet := fun o i v H Q => ∃ (PX : PXT) (α : List Addr) (S : Sto) (d di dv : D), Rep K H α d o ∧ Rep K H α di i ∧ Rep K H α dv v ∧ StR K H α S ∧ Pst K PX α H (putD d di dv S) (fun _ _ H' _ => Q H')
theorem set_all (hu : X.A.units + 1 < cLine) : PSet X (rPut X.K) := by
  intro pins s σ H o i v ov iv u Q I ro ri rv h
  obtain ⟨PX, α, S, d, di, dv, rd, rdi, rdv, st, p⟩ := h
  unfold putD at p
  split at p
  · rename_i n
    obtain ⟨a, rfl, ha⟩ := of_ref rd
    split at p
    · rename_i ds e
      obtain ⟨vs, h1, h2⟩ := st.lst e ha
      split at p
      · rename_i k
        rw [of_int rdi] at ri
        split at p
        · rename_i j ej
          refine set_list pins s σ H _ _ v ov iv u Q I ro ri rv ⟨a, vs, k, j, rfl, rfl, h1, by rw [h2.length]; exact ej, ?_⟩
          have ex : Ext α H α (upd H a (.lst (vs.set j v))) := .write (List.mem_of_getElem? ha) h1 rfl
          exact p α _ (st.write ha h1 rfl ⟨_, upd_same, (h2.set rdv j).mono ex _ _⟩) ex
        · exact p.elim
      · exact p.elim
    · rename_i kvs e
      obtain ⟨ws, h1, h2⟩ := st.obj n _ a e ha
      split at p
      · rename_i k ek
        split at p
        · rename_i hz
          rw [keyOf_rep ek rdi] at ri
          have ex : Ext α H α (upd H a (.dK (L2.putK ws k v))) := .write (List.mem_of_getElem? ha) h1 rfl
          refine set_dict hu pins s σ H _ _ v ov iv u Q I ro ri rv ⟨a, _, rfl, .k h1 (by rw [repKV_len h2, ← lineN_eq]; exact hz), ?_⟩
          exact p α _ (st.write ha h1 rfl ⟨_, upd_same, (putK_rep rdv h2).mono ex⟩) ex
        · exact p.elim
      · exact p.elim
    · rename_i kvs e
      obtain ⟨ws, h1, h2⟩ := st.obj n _ a e ha
      split at p
      · rename_i es
        split at p
        · rename_i k ek
          split at p
          · rename_i hz
            obtain ⟨b, bs, rfl, hb, hr⟩ := of_tup rdi
            rw [keysOf_rep ek hr] at hb
            have ex : Ext α H α (upd H a (.dT (L2.putK ws k v))) := .write (List.mem_of_getElem? ha) h1 rfl
            refine set_dict hu pins s σ H _ _ v ov iv u Q I ro ri rv ⟨a, _, rfl, .t h1 hb (by rw [repKV_len h2, ← lineN_eq]; exact hz), ?_⟩
            exact p α _ (st.write ha h1 rfl ⟨_, upd_same, (putK_rep rdv h2).mono ex⟩) ex
          · exact p.elim
        · exact p.elim
      · exact p.elim
    · exact p.elim
  · exact p.elim
end
end G

/-! The engine, part 6: is this literal the text's tree? -/
namespace G
open PySem PySem.Spec PyProof.Rows L2
structure Tab where
  F : List Fd
  gl : List (Str × D)
  free : List Str
def isVis (sc : Scope) (x : Str) : Bool := match sc.names.lookup x with
  | some .local => true
  | some .cell => true
  | some .free => true
  | _ => false
def isLoc (sc : Scope) (dfn : Bool) (x : Str) : Bool := match sc.names.lookup x with
  | some .local => true
  | some .cell => dfn
  | _ => false
def isGl (sc : Scope) (x : Str) : Bool := match sc.names.lookup x with
  | some .globalImplicit => true
  | _ => false
def plainNm (x : Str) : Bool := !(x == ("__debug__" : Str)) && !(x == ("__classdict__" : Str)) && !(x == ("__name__" : Str))
def kOk (d : D) (c : Const) : Bool := match d, c with
  | .int i, .int j => decide (i = j)
  | .bl a, .bool b => decide (a = b)
  | .str a, .str b => decide (a = b)
  | .non, .none => true
  | _, _ => false
def keysB : List Str → List (Option Expr) → Bool
  | [], ks => ks.isEmpty
  | k :: r, ks => match ks with
    | some (.Constant (.str s) _ _) :: ks => decide (s = k) && keysB r ks
    | _ => false
/-- a receiver of a method -/
def recv : Expr → Bool
  | .Name _ _ => true
  | .Subscript _ _ _ => true
  | _ => false
def ownP (N : List Str) (own : List Nat) : List (Str × Nat) := own.map fun i => (N.getD i "", i)
mutual
def tgIx : Tg → List Nat
  | .n i => [i]
  | .t ts => tgIxs ts
def tgIxs : List Tg → List Nat
  | [] => []
  | t :: ts => tgIx t ++ tgIxs ts
end
section
variable (T : Tab) (N : List Str)
mutual
def chkG : Tg → Scope → Bool → Expr → Bool
  | .n i, sc, dfn, x => match x with
    | .Name n _ => decide (N[i]? = some n) && isLoc sc dfn n
    | _ => false
  | .t ts, sc, dfn, x => match x with
    | .Tuple es _ _ => chkGs ts sc dfn es
    | _ => false
def chkGs : List Tg → Scope → Bool → List Expr → Bool
  | [], _, _, es => match es with
    | [] => true
    | _ => false
  | t :: ts, sc, dfn, es => match es with
    | e :: es => chkG t sc dfn e && chkGs ts sc dfn es
    | [] => false
end
mutual
def chkE : E → Scope → Expr → Bool
  | .v i, sc, x => match x with
    | .Name n _ => decide (N[i]? = some n) && isVis sc n && plainNm n
    | _ => false
  | .k d, _, x => match x with
    | .Constant c _ _ => kOk d c
    | _ => false
  | .g n, sc, x => match x with
    | .Name y _ => isGl sc y && plainNm y && (match T.gl[n]? with
      | some p => decide (p.1 = y)
      | none => false)
    | _ => false
  | .bin o a b, sc, x => match x with
    | .BinOp l op r _ => decide (op = o.op) && chkE a sc l && chkE b sc r
    | _ => false
  | .neg a, sc, x => match x with
    | .UnaryOp op l _ => decide (op = .USub) && chkE a sc l
    | _ => false
  | .cmp o a b, sc, x => match x with
    | .Compare l ops rs _ => (match ops, rs with
      | [op], [r] => decide (op = o.op) && chkE a sc l && chkE b sc r
      | _, _ => false)
    | _ => false
  | .chain o o' a b c, sc, x => match x with
    | .Compare l ops rs _ => (match ops, rs with
      | [op, op'], [m, r] => decide (op = o.op) && decide (op' = o'.op) && chkE a sc l && chkE b sc m && chkE c sc r
      | _, _ => false)
    | _ => false
  | .and es, sc, x => match x with
    | .BoolOp op vs _ => decide (op = .And) && chkEs es sc vs
    | _ => false
  | .or es, sc, x => match x with
    | .BoolOp op vs _ => decide (op = .Or) && chkEs es sc vs
    | _ => false
  | .not a, sc, x => match x with
    | .UnaryOp op l _ => decide (op = .Not) && chkE a sc l
    | _ => false
  | .ite t a b, sc, x => match x with
    | .IfExp c l r _ => chkE t sc c && chkE a sc l && chkE b sc r
    | _ => false
  | .tup es, sc, x => match x with
    | .Tuple vs _ _ => chkEs es sc vs
    | _ => false
  | .lst es, sc, x => match x with
    | .List vs _ => chkEs es sc vs
    | _ => false
  | .dict ks es, sc, x => match x with
    | .Dict keys vs _ => keysB ks keys && decide (keys.length = vs.length) && !keys.isEmpty && decide (keys.length ≤ 15) && chkEs es sc vs
    | _ => false
  | .dict0 _, _, x => match x with
    | .Dict ks vs _ => (match ks, vs with
      | [], [] => true
      | _, _ => false)
    | _ => false
  | .ix a i, sc, x => match x with
    | .Subscript l r _ => chkE a sc l && chkE i sc r
    | _ => false
  | .sl a lo hi, sc, x => match x with
    | .Subscript l s _ => (match s with
      | .Slice y z none _ => chkE a sc l && chkO lo sc y && chkO hi sc z
      | _ => false)
    | _ => false
  | .rev a, sc, x => match x with
    | .Subscript l (.Slice none none (some (.UnaryOp op (.Constant (.int j) _ _) _)) _) _ => decide (op = .USub) && decide (j = 1) && chkE a sc l
    | _ => false
  | .call f es, sc, x => match x with
    | .Call (.Name n _) vs [] _ => isGl sc n && plainNm n && chkEs es sc vs && (match T.F[f]? with
      | some fd => decide (fd.name = n)
      | none => false)
    | _ => false
  | .blt b es, sc, x => match x with
    | .Call (.Name n _) vs [] _ => decide (n = b.nm) && isGl sc n && decide (b.nm ∈ T.free) && !vs.isEmpty && chkEs es sc vs
    | _ => false
  | .met m o es, sc, x => match x with
    | .Call (.Attribute l n ap) vs [] cp => decide (n = m.nm) && (ap.endLine == cp.line) && recv l && decide (vs.length ≤ 8) && chkE o sc l && chkEs es sc vs
    | _ => false
  | .lc own tg it c e, sc, x => match x with
    | .ListComp elt [⟨t, iter, ifs, a⟩] scope _ => decide (a = 0) && blkC N sc scope (ownP N own) && (tgIx tg).all (fun i => decide (i ∈ own)) && chkG N tg (relS scope sc) false t && chkI it sc t iter && chkC c (relS scope sc) ifs && chkE e (relS scope sc) elt
    | _ => false
def chkEs : Es → Scope → List Expr → Bool
  | .nil, _, vs => match vs with
    | [] => true
    | _ => false
  | .cons e es, sc, vs => match vs with
    | v :: vs => chkE e sc v && chkEs es sc vs
    | [] => false
def chkO : Eo → Scope → Option Expr → Bool
  | .none, _, x => match x with
    | none => true
    | _ => false
  | .some e, sc, x => match x with
    | some x => chkE e sc x
    | none => false
def chkC : Eo → Scope → List Expr → Bool
  | .none, _, x => match x with
    | [] => true
    | _ => false
  | .some e, sc, x => match x with
    | [x] => chkE e sc x
    | _ => false
def chkI : It → Scope → Expr → Expr → Bool
  | .of e, sc, _, x => chkE e sc x
  | .rng1 a, sc, _, x => match x with
    | .Call (.Name n _) vs [] _ => (match vs with
      | [l] => decide (n = "range") && isGl sc n && decide (("range" : Str) ∈ T.free) && chkE a sc l
      | _ => false)
    | _ => false
  | .rng2 a b, sc, _, x => match x with
    | .Call (.Name n _) vs [] _ => (match vs with
      | [l, r] => decide (n = "range") && isGl sc n && decide (("range" : Str) ∈ T.free) && chkE a sc l && chkE b sc r
      | _ => false)
    | _ => false
  | .revd a, sc, _, x => match x with
    | .Call (.Name n _) vs [] _ => (match vs with
      | [l] => decide (n = "reversed") && isGl sc n && decide (("reversed" : Str) ∈ T.free) && chkE a sc l
      | _ => false)
    | _ => false
  | .enum _, _, _, _ => false
end
end
/-! what the checks tell of the tree -/
variable {T : Tab} {N : List Str} {sc : Scope}
theorem no_star {e : E} {x : Expr} {p : Pos} : chkE T N e sc (.Starred x p) = false := by
  cases e <;> simp [chkE]
theorem no_slice {e : E} {x y z : Option Expr} {p : Pos} : chkE T N e sc (.Slice x y z p) = false := by
  cases e <;> simp [chkE]
theorem no_set {e : E} {x : List Expr} {k : Nat} {p : Pos} : chkE T N e sc (.Set x k p) = false := by
  cases e <;> simp [chkE]
theorem no_setI {it : It} {t : Expr} {x : List Expr} {k : Nat} {p : Pos} : chkI T N it sc t (.Set x k p) = false := by
  cases it <;> simp [chkI, no_set]
theorem star_of {e : E} {x : Expr} {es : List Expr} {env : PySem.Env} (h : chkE T N e sc x = true) : starEach (x :: es) env = (false, eval x env) :: starEach es env := by
  cases x <;> first
    | (rw [no_star] at h; cases h)
    | rfl
theorem plain_of {e : E} {x : Expr} (h : chkE T N e sc x = true) : PlainIx x := by
  cases x <;> first
    | (rw [no_slice] at h; cases h)
    | exact fun _ _ => rfl
theorem fold_of {it : It} {t x : Expr} {env : PySem.Env} (h : chkI T N it sc t x = true) : ∀ y, foldedSetIterable x env y = pure y := by
  cases x <;> first
    | (rw [no_setI] at h; cases h)
    | exact fun _ => rfl
theorem mark_of {e : E} {x : Expr} {op : CmpOp} (h : chkE T N e sc x = true) : behindInMarks op x = false := by
  cases x <;> first
    | (rw [no_set] at h; cases h)
    | rfl
theorem asg_of {dfn : Bool} {t : Tg} {x : Expr} {es : List Expr} {env : PySem.Env} (h : chkG N t sc dfn x = true) : assignEach (x :: es) env = (false, assign x env) :: assignEach es env := by
  cases x <;> first
    | (cases t <;> simp [chkG] at h; done)
    | rfl
theorem isVis_ok {x : Str} (h : isVis sc x = true) : Vis sc x := by
  unfold isVis at h
  split at h <;> first
    | exact .inl (by assumption)
    | exact .inr (.inl (by assumption))
    | exact .inr (.inr (by assumption))
    | cases h
theorem isLoc_ok {x : Str} {d : Bool} (h : isLoc sc d x = true) : Loc sc x ∧ (d = true ∨ sc.names.lookup x = some .local) := by
  unfold isLoc at h
  split at h
  · exact ⟨.inl (by assumption), .inr (by assumption)⟩
  · exact ⟨.inr (by assumption), .inl h⟩
  · cases h
theorem isGl_ok {x : Str} (h : isGl sc x = true) : sc.names.lookup x = some .globalImplicit := by
  unfold isGl at h
  split at h
  · assumption
  · cases h
theorem plainNm_ok {x : Str} (h : plainNm x = true) : (x == ("__debug__" : Str)) = false ∧ (x == ("__classdict__" : Str)) = false ∧ (x == ("__name__" : Str)) = false := by
  unfold plainNm at h
  simp only [Bool.and_eq_true, Bool.not_eq_true'] at h
  exact ⟨h.1.1, h.1.2, h.2⟩
theorem ownP_snd {own : List Nat} : (ownP N own).map (·.2) = own := by
  unfold ownP
  rw [List.map_map]
  exact List.map_id'' (fun _ => rfl) own
end G

/-! The engine, part 7: defs with the guards' list; the context; steps by values. -/
namespace G
open PySem PySem.Spec PyProof.Rows L2
/-- a def's promise where no guard runs -/
structure FnG (P : Program) (w : World) (K : PySem.W.Frag) (mg : Str → Option Value) (base : Heap) (CX : CXT) (k : Nat) (f : Addr) (fd : FuncData) (ps : List Str) (sp : Sp) : Prop where
  len : ∀ vs H Q E, sp vs H Q E → vs.length = ps.length
  run : ∀ (A : Around) (outer : List PySem.Env) (s : Shared) (H : Hp) (args : Args) (us : List Value) (vs : List V) (Q : VK) (E : XK), Room k A → A.guards = some [] → Env0 P w K mg base A outer s H → BindsTo s fd args (ps.zip us) → Vals vs us → sp vs H Q E →
    codeAny (model P w) A (.call (.ref f) args) (CR CX outer P w H s Q E) s
section
variable {X : Cx} {CX : CXT} {k : Nat} {f : Addr} {fd : FuncData} {ps : List Str} {sp : Sp} {W : XK} {x : Str} {p pos : Pos} {e : Expr} {es : List Expr} {t : TA}
theorem run_fnG {pins : List (Addr × Obj)} {σ : L2.St} {H : Hp} {s : Shared} {Q : VK} {us : List Value} {vs : List V} (F : FnG X.prog X.w X.K X.mg X.base CX k f fd ps sp) (hr : Room k X.A) (hg : X.A.guards = some []) (hb : Binds X.K fd ps []) (hx : Passes CX X W)
    (I : Inv X pins σ H s) (r : Vals vs us) (h : sp vs H Q W) : wpAny (model X.prog X.w) X.A (call (.ref f) us) (EP X pins σ Q) X.xe s := by
  have hl : us.length = ps.length := by rw [← r.length]; exact F.len _ _ _ _ h
  have hb' := hb s us I.kIn (by rw [List.append_nil]; exact hl)
  rw [List.append_nil] at hb'
  refine wpAny_call (codeAny_mono (F.run X.A X.stack s H ⟨us, []⟩ us vs Q W hr hg I.env0 hb' r h) fun r s' hq => ?_)
  cases r with
  | error e => exact hx pins σ H s e s' I hq
  | ok fl =>
    cases fl with
    | ret u => exact I.after hq
    | next => exact False.elim hq
    | brk => exact False.elim hq
    | cont => exact False.elim hq
theorem pe_callG (F : FnG X.prog X.w X.K X.mg X.base CX k f fd ps sp) (hr : Room k X.A) (hgs : X.A.guards = some []) (hg : Gl X x) (hm : X.mg x = some (.ref f)) (hk : PySem.W.keepIn X.K (.ref f) = true) (hb : Binds X.K fd ps []) (hx : Passes CX X W)
    (ha : PA X (e :: es) t) (hdb : (x == ("__debug__" : Str)) = false) (he : starEach (e :: es) X.env = (false, eval e X.env) :: starEach es X.env) (hpl : (backTo pos (starEach es X.env)).any (·.1) = false) :
    PE X (.Call (.Name x p) (e :: es) [] pos) (tCall sp [] W t) := by
  refine ⟨fun pins s σ H Q I h => ?_⟩
  refine wpAny_Call_Name_kw (ld_glob I hg hm ?_ hdb)
  refine PySem.W.callWith_K (h₀ := X.base) I.ok.mod.kin hk (thn (ha.run pos pins s σ H _ I h) fun us s1 ⟨vs, H1, I1, r, q⟩ => ⟨I1.kIn, ?_⟩) he hpl
  have q : sp (vs ++ []) H1 Q W := q
  rw [List.append_nil] at q
  exact run_fnG F hr hgs hb hx I1 r q
theorem pe_callG0 (F : FnG X.prog X.w X.K X.mg X.base CX k f fd ps sp) (hr : Room k X.A) (hgs : X.A.guards = some []) (hg : Gl X x) (hm : X.mg x = some (.ref f)) (hk : PySem.W.keepIn X.K (.ref f) = true) (hb : Binds X.K fd ps []) (hx : Passes CX X W)
    (hdb : (x == ("__debug__" : Str)) = false) : PE X (.Call (.Name x p) [] [] pos) (tCall sp [] W tNil) := by
  refine ⟨fun pins s σ H Q I h => ?_⟩
  refine wpAny_Call_Name_kw (ld_glob I hg hm ?_ hdb)
  exact PySem.W.callWith_K0 I.kIn hk (run_fnG (us := []) F hr hgs hb hx I .nil h)
end
/-- THE RULE (turned from fn_of) -/
theorem fn_ofG {CX : CXT} {P : Program} {w : World} {K : PySem.W.Frag} {mg : Str → Option Value} {base : Heap} {k : Nat} {f : Addr} {name qual : Str} {params : Arguments} {body : List Stmt} {scope : Scope} {dV kV doc pm cdv ct oc : Value} {an od : Option Addr}
    {osl : Array (Option Value)} {N ps : List Str} {sp : Sp} (lk : K.lookup f = some ⟨oc, od, .func (PySem.W.fnOf name qual params body scope dV kV doc pm an cdv ct), osl⟩) (hcd : PySem.W.codeIn K cdv qual = true) (S : FnScope N ps scope)
    (len : ∀ vs H Q E, sp vs H Q E → vs.length = ps.length)
    (hbody : ∀ (A : Around) (outer : List PySem.Env) (s : Shared) (H : Hp) (vs : List V) (Q : VK) (E : XK), Room k (A.deeper (envOfC qual scope s.heap.objs.size f cdv)) → (A.deeper (envOfC qual scope s.heap.objs.size f cdv)).guards = some [] → sp vs H Q E →
      ∃ t, PSs (cxOf CX P w K mg base N qual scope f cdv A outer s H E) body t ∧ t { nx := fun _ H' => Q .non H', rt := Q } (L2.start N vs) H) :
    FnG P w K mg base CX (k + 1) f (PySem.W.fnOf name qual params body scope dV kV doc pm an cdv ct) ps sp := by
  refine ⟨len, fun A outer s H args us vs Q E hr hgs e0 hb r hsp => ?_⟩
  have hl := len _ _ _ _ hsp
  have KX : K.In s.heap := e0.mod.kin.keeps fun b o e => (e0.bs b o e).1
  have lim : s.heap.NoLimit := e0.mod.nolimit.keeps fun b o e => (e0.bs b o e).1
  have hkind : ∀ y ∈ ps.zip us, scope.names.lookup y.1 = some .local ∨ (scope.names.lookup y.1 = some .cell ∧ ((cellsFrom (s.heap.objs.size + 1) scope.names []).lookup y.1).isSome = true) := fun ⟨n, v⟩ hy => by
    rcases S.par n (List.of_mem_zip hy).1 with q | q
    · exact .inl q
    · exact .inr ⟨q, PySem.W.cellsFrom_some _ _ _ (.inl q)⟩
  refine codeAny_call_function hr.depth (KX _ _ lk) rfl S.co S.gen rfl (PySem.W.codeRec_of KX hcd) (hb _ _ _ _ ?_)
  refine wpAny_newFunctionEnv_cells S.kind hkind fun env he s1 x => ?_
  subst he
  refine ⟨lim.keeps x.toInCall.keep, codeAny_func ?_⟩
  obtain ⟨t, ht, hq⟩ := hbody A outer s H vs Q E (hr.deeper _) hgs hsp
  have I : Inv (cxOf CX P w K mg base N qual scope f cdv A outer s H E) [] (L2.start N vs) H s1 := inv_start S hr.hd e0 hl r x
  refine wpAny_mono (ht.run [] s1 (L2.start N vs) H _ I hq) (fun fl s' hs => ?_) fun e s' hs => hs
  have fin : ∀ {σ' : L2.St} {H' : Hp} {v : V} {u : Value}, Inv (cxOf CX P w K mg base N qual scope f cdv A outer s H E) [] σ' H' s' → RelV v u → Q v H' → CE outer P w H s Q u s' :=
    fun {σ' H' v u} J rv q => ⟨v, H', J.os, J.bare, J.base, J.hok, rv, q⟩
  cases fl with
  | ret u =>
    obtain ⟨v, σ', H', J, rv, q⟩ := hs
    exact fin J rv q
  | next =>
    obtain ⟨σ', H', J, q⟩ := hs
    exact fin (v := V.non) (u := Value.none) J rfl q
  | brk =>
    obtain ⟨_, _, _, q⟩ := hs
    exact False.elim q
  | cont =>
    obtain ⟨_, _, _, q⟩ := hs
    exact False.elim q
/-- what is wanted of an exception of the language, by the wish of the model's -/
def PXE (K : PySem.W.Frag) (E : XK) : PXT := fun _ _ _ _ => False
/-- a def's promise -/
def spF (T : Tab) (wf : Nat) (K : PySem.W.Frag) (k : Nat) (f : Nat) : Sp := fun vs H Q E => ∃ α S ds, Reps K H α ds vs ∧ StR K H α S ∧ Pst K (PXE K E) α H (callF T.F (fun n => (T.gl[n]?).map (·.2)) wf k f ds S) (VF K Q)
abbrev Tab.cfg (T : Tab) (wf k : Nat) : Cfg := ⟨callF T.F (fun n => (T.gl[n]?).map (·.2)) wf k, wf, fun n => (T.gl[n]?).map (·.2)⟩
/-- a global's value -/
def glV (d : D) (u : Value) : Prop := match d with
  | .int i => ∃ t, u = .int i t
  | .str x => ∃ t, u = .str x t
  | .bl b => u = .bool b
  | .non => u = .none
  | _ => False
structure OkX (T : Tab) (wf k : Nat) (CX : CXT) (W : XK) (X : Cx) : Prop where
  calm : X.calm = true
  nd : X.N.Nodup
  room : Room k X.A
  gd : X.A.guards = some []
  free : ∀ x ∈ T.free, X.mg x = none
  gls : ∀ (n : Nat) (p : Str × D), T.gl[n]? = some p → ∃ u, X.mg p.1 = some u ∧ glV p.2 u
  fns : ∀ (f : Nat) (fd : Fd), T.F[f]? = some fd → ∃ (fa : Addr) (fdt : FuncData), X.mg fd.name = some (.ref fa) ∧ PySem.W.keepIn X.K (.ref fa) = true ∧ Binds X.K fdt fd.ps [] ∧ FnG X.prog X.w X.K X.mg X.base CX k fa fdt fd.ps (spF T wf X.K k f)
  ps : Passes CX X W
section
variable {C : Cfg} {K : PySem.W.Frag} {PX : PXT} {X : Cx}
def tE (C : Cfg) (K : PySem.W.Frag) (PX : PXT) (e : E) : TE := fun σ H Q => ∃ α ρ S, EnvR K H α σ ρ ∧ StR K H α S ∧ Pst K PX α H (evE C e ρ S) (VF K Q)
def tEs (C : Cfg) (K : PySem.W.Frag) (PX : PXT) (es : Es) : TA := fun σ H Q => ∃ α ρ S, EnvR K H α σ ρ ∧ StR K H α S ∧ Pst K PX α H (evEs C es ρ S) (fun ds α' H' _ => ∀ vs, Reps K H' α' ds vs → Q vs H')
def tT (C : Cfg) (K : PySem.W.Frag) (PX : PXT) (e : E) : TT := fun σ H Q => ∃ α ρ S, EnvR K H α σ ρ ∧ StR K H α S ∧ Pst K PX α H (evT C e ρ S) (fun b _ H' _ => Q b H')
theorem PE.imp {e : Expr} {t t' : TE} (h : PE X e t') (i : ∀ σ H Q, t σ H Q → t' σ H Q) : PE X e t := ⟨fun pins s σ H Q I q => h.run pins s σ H Q I (i σ H Q q)⟩
theorem PT.imp {e : Expr} {t t' : TT} (h : PT X e t') (i : ∀ σ H Q, t σ H Q → t' σ H Q) : PT X e t := ⟨fun pins s σ H Q I q => h.run pins s σ H Q I (i σ H Q q)⟩
theorem PA.imp {e : List Expr} {t t' : TA} (h : PA X e t') (i : ∀ σ H Q, t σ H Q → t' σ H Q) : PA X e t := ⟨fun pos pins s σ H Q I q => h.run pos pins s σ H Q I (i σ H Q q)⟩
variable {α : List Addr} {ρ : Env} {σ : L2.St} {S : Sto} {H : Hp} {γ : Type}
theorem stepE {e : E} {f : D → Sto → R γ} {F : γ → List Addr → Hp → Sto → Prop} {Q : VK} (env : EnvR K H α σ ρ) (st : StR K H α S) (p : Pst K PX α H ((evE C e ρ S).bind f) F)
    (k : ∀ d α' H' S' v, StR K H' α' S' → Ext α H α' H' → Rep K H' α' d v → Pst K PX α' H' (f d S') F → Q v H') : tE C K PX e σ H Q :=
  ⟨α, ρ, S, env, st, p.bind.imp fun d α' H' S' st' e' p' v rv => k d α' H' S' v st' e' rv p'⟩
theorem stepEs {e : Es} {f : List D → Sto → R γ} {F : γ → List Addr → Hp → Sto → Prop} {Q : List V → Hp → Prop} (env : EnvR K H α σ ρ) (st : StR K H α S) (p : Pst K PX α H ((evEs C e ρ S).bind f) F)
    (k : ∀ ds α' H' S' vs, StR K H' α' S' → Ext α H α' H' → Reps K H' α' ds vs → Pst K PX α' H' (f ds S') F → Q vs H') : tEs C K PX e σ H Q :=
  ⟨α, ρ, S, env, st, p.bind.imp fun d α' H' S' st' e' p' v rv => k d α' H' S' v st' e' rv p'⟩
theorem stepT {e : E} {f : Bool → Sto → R γ} {F : γ → List Addr → Hp → Sto → Prop} {Q : Bool → Hp → Prop} (env : EnvR K H α σ ρ) (st : StR K H α S) (p : Pst K PX α H ((evT C e ρ S).bind f) F)
    (k : ∀ b α' H' S', StR K H' α' S' → Ext α H α' H' → Pst K PX α' H' (f b S') F → Q b H') : tT C K PX e σ H Q :=
  ⟨α, ρ, S, env, st, p.bind.imp fun d α' H' S' st' e' p' => k d α' H' S' st' e' p'⟩
theorem tE.mk {e : E} {Q : VK} (env : EnvR K H α σ ρ) (st : StR K H α S) (p : Pst K PX α H (evE C e ρ S) (VF K Q)) : tE C K PX e σ H Q := ⟨α, ρ, S, env, st, p⟩
theorem tT.mk {e : E} {Q : Bool → Hp → Prop} (env : EnvR K H α σ ρ) (st : StR K H α S) (p : Pst K PX α H (evT C e ρ S) (fun b _ H' _ => Q b H')) : tT C K PX e σ H Q := ⟨α, ρ, S, env, st, p⟩
/-- two values -/
theorem step2 {a b : E} {f : D → D → Sto → R D} {Q : VK} {r : R2} (hr : ∀ x y H Q, rVal K (l2 f) [x, y] H Q → r x y H Q) (env : EnvR K H α σ ρ) (st : StR K H α S)
    (p : Pst K PX α H ((evE C a ρ S).bind fun x S => (evE C b ρ S).bind fun y S => f x y S) (VF K Q)) : tOp r (tE C K PX a) (tE C K PX b) σ H Q :=
  stepE env st p fun d α1 H1 S1 v st1 e1 rv p1 => stepE (env.mono e1) st1 p1 fun d' α2 H2 S2 v' st2 e2 rv' p2 =>
    hr v v' H2 Q ⟨PX, α2, S2, [d, d'], .cons (rv.mono e2 _ _) (.cons rv' .nil), st2, p2⟩
theorem truth_ok {d : D} {v : V} {F : Bool → Sto → R γ} {G : γ → List Addr → Hp → Sto → Prop} (st : StR K H α S) (rv : Rep K H α d v) (p : Pst K PX α H ((truth d S).bind F) G) : ∃ b, truth d S = .ok b S ∧ TruV K v H b ∧ Pst K PX α H (F b S) G := by
  have hS : ∀ b S', truth d S = .ok b S' → S' = S := fun b S' h => by
    unfold truth at h
    split at h <;> first
      | (cases h; rfl)
      | (split at h <;> first | (cases h; rfl) | cases h)
  cases q : truth d S with
  | bad => rw [q] at p; exact p.elim
  | ex c ds S' =>
    unfold truth at q
    split at q <;> first
      | cases q
      | (split at q <;> cases q)
  | ok b S' =>
    have e := hS b S' q
    subst e
    rw [q] at p
    obtain ⟨k, hk, e⟩ := truV_of (PX := fun _ _ _ _ => False) (Q := fun b' _ => b' = b) rv st (by rw [q]; exact fun _ _ _ _ => rfl)
    subst e
    exact ⟨k, rfl, hk, p⟩
end
end G

/-! The engine, part 8: expressions are sound. -/
namespace G
open PySem PySem.Spec PyProof.Rows L2
/-! ### what is walked -/
structure WkR (K : PySem.W.Frag) (J : L2.It) (w : Wk) (α : List Addr) (H : Hp) : Prop where
  stop : ∀ α' H' S i, Ext α H α' H' → StR K H' α' S → w.at i S = some none → J.stop i H'
  go : ∀ α' H' S i d, Ext α H α' H' → StR K H' α' S → w.at i S = some (some d) → J.go i H' ∧ ∀ x H'', J.yld i H' x H'' → ∃ α'', StR K H'' α'' S ∧ Ext α' H' α'' H'' ∧ Rep K H'' α'' d x
section
variable {K : PySem.W.Frag} {α : List Addr} {H : Hp} {a : Addr}
theorem wk_fl {ds : List D} {xs : List V} (h : FL K H a xs) (r : Reps K H α ds xs) : WkR K (Itl K a) (.its ds) α H := by
  refine ⟨fun α' H' S i e st q => ?_, fun α' H' S i d e st q => ?_⟩
  · simp only [Wk.at, Option.some.injEq] at q
    refine ⟨xs, (h.mono e).sq, ?_⟩
    rw [List.getElem?_eq_none_iff] at q
    rw [r.length]
    exact q
  · simp only [Wk.at, Option.some.injEq] at q
    obtain ⟨v, e1, e2⟩ := r.get q
    refine ⟨⟨xs, v, (h.mono e).sq, e1⟩, fun x H'' y => ?_⟩
    obtain ⟨rfl, y⟩ := y
    have e3 := y xs (h.mono e).sq
    rw [e1] at e3
    cases e3
    exact ⟨α', st, .refl, e2.mono e _ _⟩
theorem wk_tup {ds : List D} {xs : List V} (h : H a = some (.tup xs)) (r : Reps K H α ds xs) : WkR K (Itt K a) (.its ds) α H := by
  refine ⟨fun α' H' S i e st q => ?_, fun α' H' S i d e st q => ?_⟩
  · simp only [Wk.at, Option.some.injEq] at q
    refine ⟨xs, .of (e.st _ _ h rfl), ?_⟩
    rw [List.getElem?_eq_none_iff] at q
    rw [r.length]
    exact q
  · simp only [Wk.at, Option.some.injEq] at q
    obtain ⟨v, e1, e2⟩ := r.get q
    refine ⟨⟨xs, v, .of (e.st _ _ h rfl), e1⟩, fun x H'' y => ?_⟩
    obtain ⟨rfl, y⟩ := y
    have e3 := y xs (.of (e.st _ _ h rfl))
    rw [e1] at e3
    cases e3
    exact ⟨α', st, .refl, e2.mono e _ _⟩
theorem wk_liv {n m : Nat} (h : α[n]? = some a) : WkR K (Itl K a) (.liv n m) α H := by
  refine ⟨fun α' H' S i e st q => ?_, fun α' H' S i d e st q => ?_⟩
  · simp only [Wk.at] at q
    split at q
    · rename_i ds es
      obtain ⟨vs, h1, h2⟩ := st.lst es (e.at h)
      refine ⟨vs, .of h1, ?_⟩
      rw [h2.length]
      simpa using q
    · cases q
  · simp only [Wk.at] at q
    split at q
    · rename_i ds es
      obtain ⟨vs, h1, h2⟩ := st.lst es (e.at h)
      obtain ⟨v, e1, e2⟩ := h2.get (by simpa using q)
      refine ⟨⟨vs, v, .of h1, e1⟩, fun x H'' y => ?_⟩
      obtain ⟨rfl, y⟩ := y
      have e3 := y vs (.of h1)
      rw [e1] at e3
      cases e3
      exact ⟨α', st, .refl, e2⟩
    · cases q
theorem wk_livR {n m : Nat} (h : α[n]? = some a) : WkR K (Itv K a m) (.livR n m) α H := by
  refine ⟨fun α' H' S i e st q => ?_, fun α' H' S i d e st q => ?_⟩
  · simp only [Wk.at] at q
    split at q
    · rename_i ds es
      split at q
      · rename_i hm
        show m ≤ i
        split at q
        · rename_i hi
          simp only [Option.some.injEq, List.getElem?_eq_none_iff] at q
          omega
        · omega
      · cases q
    · cases q
  · simp only [Wk.at] at q
    split at q
    · rename_i ds es
      obtain ⟨vs, h1, h2⟩ := st.lst es (e.at h)
      split at q
      · rename_i hm
        split at q
        · rename_i hi
          obtain ⟨v, e1, e2⟩ := h2.get (by simpa using q)
          refine ⟨⟨hi, vs, v, .of h1, e1⟩, fun x H'' y => ?_⟩
          obtain ⟨rfl, y⟩ := y
          have e3 := y vs (.of h1)
          rw [e1] at e3
          cases e3
          exact ⟨α', st, .refl, e2⟩
        · cases q
      · cases q
    · cases q
theorem wk_tupR {ds : List D} {xs : List V} (h : H a = some (.tup xs)) (r : Reps K H α ds xs) : WkR K (RT.ItvT K a xs.length) (.its ds.reverse) α H := by
  have hl := r.length
  refine ⟨fun α' H' S i e st q => ?_, fun α' H' S i d e st q => ?_⟩
  · simp only [Wk.at, Option.some.injEq, List.getElem?_eq_none_iff, List.length_reverse] at q
    show xs.length ≤ i
    omega
  · simp only [Wk.at, Option.some.injEq] at q
    have hi : i < ds.length := by
      have := (List.getElem?_eq_some_iff.mp q).1
      simpa using this
    rw [List.getElem?_reverse hi] at q
    obtain ⟨v, e1, e2⟩ := r.get q
    rw [← hl] at e1
    refine ⟨⟨by omega, xs, v, .of (e.st _ _ h rfl), e1⟩, fun x H'' y => ?_⟩
    obtain ⟨rfl, y⟩ := y
    have e3 := y xs (.of (e.st _ _ h rfl))
    rw [e1] at e3
    cases e3
    exact ⟨α', st, .refl, e2.mono e _ _⟩
theorem wk_rng {lo : Int} {n : Nat} : WkR K (Itr lo n) (.its (rangeL lo n)) α H := by
  refine ⟨fun α' H' S i e st q => ?_, fun α' H' S i d e st q => ?_⟩
  · simp only [Wk.at, Option.some.injEq, List.getElem?_eq_none_iff, rangeL, List.length_map, List.length_range] at q
    exact q
  · simp only [Wk.at, Option.some.injEq, rangeL, List.getElem?_map, Option.map_eq_some_iff] at q
    obtain ⟨j, q1, rfl⟩ := q
    obtain ⟨h1, h2⟩ := List.getElem?_eq_some_iff.mp q1
    rw [List.getElem_range] at h2
    subst h2
    rw [List.length_range] at h1
    refine ⟨h1, fun x H'' y => ?_⟩
    obtain ⟨rfl, rfl⟩ := y
    exact ⟨α', st, .refl, rep_int⟩
end
/-! ### targets -/
def SameBut (is : List Nat) (σ σ' : L2.St) : Prop := ∀ i, i ∉ is → σ'[i]? = σ[i]?
section
variable {K : PySem.W.Frag} {X : Cx} {T : Tab} {N : List Str} {sc : Scope} {dfn : Bool}
def tG (K : PySem.W.Frag) (t : Tg) : TG := fun v σ H Q => ∃ α ρ d ρ', EnvR K H α σ ρ ∧ Rep K H α d v ∧ asgT t d ρ = some ρ' ∧ ∀ σ', EnvR K H α σ' ρ' → σ'.length = σ.length → SameBut (tgIx t) σ σ' → Q σ' H
def tGs (K : PySem.W.Frag) (ts : List Tg) : TGs := fun vs σ H Q => ∃ α ρ ds ρ', EnvR K H α σ ρ ∧ Reps K H α ds vs ∧ asgTs ts ds ρ = some ρ' ∧ ∀ σ', EnvR K H α σ' ρ' → σ'.length = σ.length → SameBut (tgIxs ts) σ σ' → Q σ' H
theorem PG.imp {x : Expr} {t t' : TG} (h : PG X x t') (i : ∀ v σ H Q, t v σ H Q → t' v σ H Q) : PG X x t := ⟨fun pins s σ H v u Q I r q => h.run pins s σ H v u Q I r (i _ _ _ _ q)⟩
theorem PGs.imp {x : List Expr} {t t' : TGs} (h : PGs X x t') (i : ∀ v σ H Q, t v σ H Q → t' v σ H Q) : PGs X x t := ⟨fun pins s σ H v u Q I r q => h.run pins s σ H v u Q I r (i _ _ _ _ q)⟩
theorem asg_len {env : PySem.Env} : ∀ (ts : List Tg) (es : List Expr), chkGs N ts sc dfn es = true → (assignEach es env).length = ts.length ∧ es.length = ts.length ∧ (assignEach es env).findIdx? (·.1) = none
  | [], es, h => by
    cases es with
    | nil => exact ⟨rfl, rfl, rfl⟩
    | cons _ _ => simp [chkGs] at h
  | t :: ts, es, h => by
    cases es with
    | nil => simp [chkGs] at h
    | cons e es =>
      simp only [chkGs, Bool.and_eq_true] at h
      obtain ⟨h1, h2, h3⟩ := asg_len ts es h.2
      rw [asg_of h.1]
      refine ⟨by rw [List.length_cons, h1]; rfl, by rw [List.length_cons, h2]; rfl, ?_⟩
      rw [List.findIdx?_cons, h3]
      rfl
theorem asgTs_len : ∀ {ts : List Tg} {ds : List D} {ρ ρ' : Env}, asgTs ts ds ρ = some ρ' → ds.length = ts.length
  | [], [], _, _, _ => rfl
  | [], _ :: _, _, _, h => by simp [asgTs] at h
  | _ :: _, [], _, _, h => by simp [asgTs] at h
  | t :: ts, d :: ds, ρ, ρ', h => by
    simp only [asgTs, Option.bind_eq_some_iff] at h
    obtain ⟨ρ1, _, h2⟩ := h
    rw [List.length_cons, List.length_cons, asgTs_len h2]
mutual
theorem sound_G (hs : X.env.scope = sc) (hN : X.N = N) (nd : X.N.Nodup) (hc : X.calm = true) (hf : dfn = true → ∀ x, X.fn x = true) : ∀ (t : Tg) (x : Expr), chkG N t sc dfn x = true → PG X x (tG X.K t)
  | .n i, x, h => by
    cases x with
    | Name n p =>
      simp only [chkG, Bool.and_eq_true, decide_eq_true_eq] at h
      obtain ⟨h1, h2⟩ := h
      obtain ⟨l1, l2⟩ := isLoc_ok h2
      subst hs
      refine PG.imp (pg_name (i := i) nd (by rw [hN]; exact h1) l1 (l2.elim (fun z => .inl (hf z _)) .inr)) fun v σ H Q q => ?_
      obtain ⟨α, ρ, d, ρ', env, r, e, k⟩ := q
      simp only [asgT, Option.some.injEq] at e
      subst e
      exact k _ (env.set r) (by rw [List.length_set]) fun j hj => by
        rw [List.getElem?_set_ne]
        simpa [tgIx, eq_comm] using hj
    | _ => simp [chkG] at h
  | .t ts, x, h => by
    cases x with
    | Tuple es k p =>
      simp only [chkG] at h
      obtain ⟨h1, h2, h3⟩ := asg_len (env := X.env) ts es h
      refine PG.imp (pg_tup hc (sound_Gs hs hN nd hc hf ts es h) h1 h3) fun v σ H Q q => ?_
      obtain ⟨α, ρ, d, ρ', env, r, e, k⟩ := q
      cases d with
      | tup ds =>
        obtain ⟨a, vs, rfl, ha, rs⟩ := of_tup r
        simp only [asgT] at e
        exact ⟨a, vs, rfl, .of ha, by rw [rs.length]; exact asgTs_len e, α, ρ, ds, ρ', env, rs, e, k⟩
      | _ => simp [asgT] at e
    | _ => simp [chkG] at h
theorem sound_Gs (hs : X.env.scope = sc) (hN : X.N = N) (nd : X.N.Nodup) (hc : X.calm = true) (hf : dfn = true → ∀ x, X.fn x = true) : ∀ (ts : List Tg) (xs : List Expr), chkGs N ts sc dfn xs = true → PGs X xs (tGs X.K ts)
  | [], xs, h => by
    cases xs with
    | nil =>
      refine PGs.imp pgs_nil fun v σ H Q q => ?_
      obtain ⟨α, ρ, ds, ρ', env, r, e, k⟩ := q
      cases ds with
      | nil =>
        simp only [asgTs, Option.some.injEq] at e
        subst e
        exact ⟨r.nil_inv, k _ env rfl fun _ _ => rfl⟩
      | cons _ _ => simp [asgTs] at e
    | cons _ _ => simp [chkGs] at h
  | t :: ts, xs, h => by
    cases xs with
    | nil => simp [chkGs] at h
    | cons x xs =>
      simp only [chkGs, Bool.and_eq_true] at h
      refine PGs.imp (pgs_cons (sound_G hs hN nd hc hf t x h.1) (sound_Gs hs hN nd hc hf ts xs h.2) (by rw [asg_of h.1]; rfl)) fun v σ H Q q => ?_
      obtain ⟨α, ρ, ds, ρ', env, r, e, k⟩ := q
      cases ds with
      | nil => simp [asgTs] at e
      | cons d ds =>
        simp only [asgTs, Option.bind_eq_some_iff] at e
        obtain ⟨ρ1, e1, e2⟩ := e
        obtain ⟨v1, vr, rfl, r1, r2⟩ := r.cons_inv
        refine ⟨v1, vr, rfl, α, ρ, d, ρ1, env, r1, e1, fun σ1 env1 l1 s1 => ?_⟩
        refine ⟨α, ρ1, ds, ρ', env1, r2, e2, fun σ2 env2 l2 s2 => k σ2 env2 (l2.trans l1) fun i hi => ?_⟩
        simp only [tgIxs, List.mem_append, not_or] at hi
        rw [s2 i hi.2, s1 i hi.1]
end
theorem wipe_in {j : Nat} : ∀ (σ : L2.St) (vs : List Nat), j ∈ vs → (L2.wipe σ vs)[j]? = if j < σ.length then some none else none := by
  intro σ vs
  induction vs with
  | nil => intro z; cases z
  | cons v vs ih =>
    intro z
    unfold L2.wipe
    by_cases e : v = j
    · subst e
      by_cases hlt : v < σ.length
      · rw [List.getElem?_set_self (by rw [L2.wipe_length]; exact hlt), if_pos hlt]
      · rw [if_neg hlt, List.getElem?_eq_none_iff, List.length_set, L2.wipe_length]
        omega
    · rw [List.getElem?_set_ne e]
      exact ih ((List.mem_cons.mp z).resolve_left (Ne.symm e))
theorem wipe_out {j : Nat} : ∀ (σ : L2.St) (vs : List Nat), j ∉ vs → (L2.wipe σ vs)[j]? = σ[j]? := by
  intro σ vs
  induction vs with
  | nil => intro _; rfl
  | cons v vs ih =>
    intro z
    unfold L2.wipe
    rw [List.getElem?_set_ne fun e => z (by rw [e]; exact List.mem_cons_self)]
    exact ih fun e => z (List.mem_cons_of_mem _ e)
theorem wipe_same (own is : List Nat) (σ σ' : L2.St) (hl : σ'.length = (L2.wipe σ own).length) (h : SameBut is (L2.wipe σ own) σ') (hi : ∀ i ∈ is, i ∈ own) : L2.wipe σ' own = L2.wipe σ own := by
  rw [L2.wipe_length] at hl
  refine List.ext_getElem? fun j => ?_
  by_cases hj : j ∈ own
  · rw [wipe_in σ' own hj, wipe_in σ own hj, hl]
  · rw [wipe_out σ' own hj]
    exact h j fun z => hj (hi j z)
end
/-! ### a list in the making, beside the store -/
section
variable {K : PySem.W.Frag} {α α1 : List Addr} {H H1 : Hp} {S : Sto} {D' : Addr}
mutual
theorem Rep.out {w u : HO} (e : H D' = some w) (hw : stays w = false) {β : List Addr} : ∀ (d : D) (v : V), Rep K H α d v → Rep K (upd H D' u) (α ++ β) d v
  | .non, _, h => by simp only [Rep] at h ⊢; exact h
  | .bl _, _, h => by simp only [Rep] at h ⊢; exact h
  | .int _, _, h => by simp only [Rep] at h ⊢; exact h
  | .str _, _, h => by simp only [Rep] at h ⊢; exact h
  | .tup ds, _, h => by
    simp only [Rep] at h ⊢
    obtain ⟨a, ws, h1, h2, h3⟩ := h
    refine ⟨a, ws, h1, ?_, Reps.out e hw ds ws h3⟩
    rw [upd_ne]
    · exact h2
    · rintro rfl
      rw [e] at h2
      cases h2
      cases hw
  | .ref n, _, h => by
    simp only [Rep] at h ⊢
    obtain ⟨a, h1, h2⟩ := h
    exact ⟨a, h1, by rw [List.getElem?_append_left (List.getElem?_eq_some_iff.mp h2).1]; exact h2⟩
  | .fl ds, _, h => by
    simp only [Rep] at h ⊢
    obtain ⟨a, ws, h1, h2, h3⟩ := h
    refine ⟨a, ws, h1, ?_, Reps.out e hw ds ws h3⟩
    rcases h2 with ⟨o, h2⟩ | h2
    · refine .inl ⟨o, ?_⟩
      rw [upd_ne]
      · exact h2
      · rintro rfl
        rw [e] at h2
        cases h2
        cases hw
    · exact .inr h2
theorem Reps.out {w u : HO} (e : H D' = some w) (hw : stays w = false) {β : List Addr} : ∀ (ds : List D) (ws : List V), Reps K H α ds ws → Reps K (upd H D' u) (α ++ β) ds ws
  | [], _, h => by simp only [Reps] at h ⊢; exact h
  | d :: ds, _, h => by
    simp only [Reps] at h ⊢
    obtain ⟨v, r, h1, h2, h3⟩ := h
    exact ⟨v, r, h1, Rep.out e hw d v h2, Reps.out e hw ds r h3⟩
end
theorem RepKV.out {κ : Type} {w u : HO} (e : H D' = some w) (hw : stays w = false) {β : List Addr} {kvs : List (κ × D)} {ws : List (κ × V)} (r : RepKV K H α kvs ws) : RepKV K (upd H D' u) (α ++ β) kvs ws :=
  Paired.mapP r fun _ _ z => ⟨z.1, z.2.out e hw _ _⟩
theorem ObR.out {w u : HO} (e : H D' = some w) (hw : stays w = false) {β : List Addr} {a : Addr} {o : Ob} (h : ObR K H α a o) (ne : a ≠ D') : ObR K (upd H D' u) (α ++ β) a o := by
  cases o with
  | lst ds => obtain ⟨ws, q, r⟩ := h; exact ⟨ws, (upd_ne ne).trans q, r.out e hw _ _⟩
  | dK kvs => obtain ⟨ws, q, r⟩ := h; exact ⟨ws, (upd_ne ne).trans q, r.out e hw⟩
  | dT kvs => obtain ⟨ws, q, r⟩ := h; exact ⟨ws, (upd_ne ne).trans q, r.out e hw⟩
theorem StR.out {w u : HO} (s : StR K H α S) (e : H D' = some w) (hw : stays w = false) (n : D' ∉ α) : StR K (upd H D' u) α S :=
  ⟨s.len, s.nd, fun m o a h1 h2 => by
    have q := (s.obj m o a h1 h2).out (u := u) e hw (β := []) (by rintro rfl; exact n (List.mem_of_getElem? h2))
    rw [List.append_nil] at q
    exact q⟩
theorem upd_id {a : Addr} {o : HO} (e : H a = some o) : upd H a o = H := by
  funext b
  by_cases h : b = a
  · subst h; rw [upd_same, e]
  · rw [upd_ne h]
/-- an object beside the store becomes one of the store -/
theorem StR.adopt {w : HO} {o : Ob} (s : StR K H α S) (e : H D' = some w) (hw : stays w = false) (n : D' ∉ α) (r : ObR K H (α ++ [D']) D' o) : StR K H (α ++ [D']) (S ++ [o]) := by
  have ue : upd H D' w = H := upd_id e
  refine ⟨by rw [List.length_append, List.length_append, s.len]; rfl, ?_, fun m o' a h1 h2 => ?_⟩
  · rw [List.nodup_append]
    refine ⟨s.nd, by simp, fun a ha b hb => ?_⟩
    rw [List.mem_singleton.mp hb]
    rintro rfl
    exact n ha
  · by_cases hn : m < S.length
    · rw [List.getElem?_append_left hn] at h1
      rw [List.getElem?_append_left (by rw [s.len]; exact hn)] at h2
      have q := (s.obj m o' a h1 h2).out (u := w) e hw (β := [D']) (by rintro rfl; exact n (List.mem_of_getElem? h2))
      rw [ue] at q
      exact q
    · have hl := (List.getElem?_eq_some_iff.mp h1).1
      rw [List.length_append, List.length_singleton] at hl
      have en : m = S.length := by omega
      subst en
      rw [List.getElem?_append_right (Nat.le_refl _), Nat.sub_self] at h1
      rw [← s.len, List.getElem?_append_right (Nat.le_refl _), Nat.sub_self] at h2
      simp at h1 h2
      subst h1 h2
      exact r
theorem Reps.wide {w : HO} {β : List Addr} (e : H D' = some w) (hw : stays w = false) {ds : List D} {vs : List V} (r : Reps K H α ds vs) : Reps K H (α ++ β) ds vs := by
  have q := r.out (u := w) e hw (β := β) _ _
  rw [upd_id e] at q
  exact q
theorem Ext.out {u : HO} (e : Ext α1 H1 α H) (n : H1 D' = none) : Ext α1 H1 α (upd H D' u) :=
  ⟨e.pre, e.new, fun b o h k => by rw [upd_ne (ne_of_none h n)]; exact e.fr b o h k, fun b o h k => by rw [upd_ne (ne_of_none h n)]; exact e.st b o h k⟩
theorem Ext.adopt (e : Ext α1 H1 α H) (n : H1 D' = none) : Ext α1 H1 (α ++ [D']) H := by
  obtain ⟨β, rfl⟩ := e.pre
  refine ⟨⟨β ++ [D'], by rw [List.append_assoc]⟩, fun b hb => ?_, e.fr, e.st⟩
  rcases List.mem_append.mp hb with h | h
  · exact e.new b h
  · rw [List.mem_singleton.mp h]; exact .inr n
theorem Ext.notin {D' : Addr} {o : HO} (e : Ext α H α1 H1) (n : D' ∉ α) (h : H D' = some o) : D' ∉ α1 := fun z => by
  rcases e.new _ z with q | q
  · exact n q
  · rw [h] at q; cases q
end
end G

/-! The engine: x[::-1], x a tuple or a list. -/
namespace HT
open PySem PyProof.Rows
open PySem.SeqAt
open PySem.AutoSeq1 (wpAny_loadPart')
open PySem.MeetsSeq PySem.MeetsSeq2 PySem.MeetsSeq3
section
variable {prog : Program} {w : World} {A : Around} {E : Value → Shared → Prop} {s : Shared}
theorem adjust_rev (n : Nat) : Builtin.Slice.sliceAdjust none none (-1) (n : Int) = ((n : Int) - 1, -1) := by
  unfold Builtin.Slice.sliceAdjust
  simp
theorem places_rev (n : Nat) : Builtin.Slice.slicePlaces ((n : Int) - 1) (-1) (-1) = n := by
  unfold Builtin.Slice.slicePlaces
  have h1 : ¬ (-1 : Int) > 0 := by omega
  simp only [h1, if_false]
  have h2 : (- (-1) : Int) = 1 := by decide
  rw [h2, Int.ediv_one]
  split <;> omega
theorem sliceApplied_rev {sl : Addr} {vl vu vs : Value} {n : Nat} {Q : Int × Int × Nat → Shared → Prop} (hs : s.heap.IsSliceOf sl vl vu vs) (pl : IsPart vl none) (pu : IsPart vu none) (pk : IsPart vs (some (-1)))
    (h : Q ((n : Int) - 1, -1, n) s) : wpAny (model prog w) A (Builtin.Slice.sliceApplied (.ref sl) (pure (n : Int))) Q E s := by
  obtain ⟨os, hos, hcs, hds⟩ := id hs
  unfold Builtin.Slice.sliceApplied Builtin.Slice.sliceFields
  refine wpAny_bind (wpAny_bind (wpAny_field hos hds (x := vl) rfl (wpAny_bind (wpAny_field hos hds (x := vu) rfl (wpAny_bind (wpAny_field hos hds (x := vs) rfl (wpAny_pure ?_)))))))
  refine wpAny_bind (slicePart_ pk ?_)
  show wpAny _ _ (if ((-1 : Int) == 0) = true then _ else _) _ _ s
  rw [if_neg (by decide)]
  refine wpAny_bind (slicePart_ pl (wpAny_bind (slicePart_ pu (wpAny_bind (wpAny_pure ?_)))))
  show wpAny _ _ (match Builtin.Slice.sliceAdjust none none (-1) (n : Int) with | (lo, hi) => pure (lo, (-1 : Int), Builtin.Slice.slicePlaces lo hi (-1))) _ _ s
  rw [adjust_rev n]
  show wpAny _ _ (pure ((n : Int) - 1, (-1 : Int), Builtin.Slice.slicePlaces ((n : Int) - 1) (-1) (-1))) _ _ s
  rw [places_rev]
  exact wpAny_pure h
theorem fm_congr {α β : Type} {f g : α → Option β} : ∀ (l : List α), (∀ a ∈ l, f a = g a) → l.filterMap f = l.filterMap g
  | [], _ => rfl
  | a :: l, h => by
    rw [List.filterMap_cons, List.filterMap_cons, h a List.mem_cons_self, fm_congr l fun b hb => h b (List.mem_cons_of_mem _ hb)]
theorem pick_rev (xs : Array Value) : ((List.range xs.size).filterMap fun (m : Nat) => xs[((xs.size : Int) - 1 + (m : Int) * (-1)).toNat]?).toArray = xs.toList.reverse.toArray := by
  have e : (List.range xs.size).filterMap (fun (m : Nat) => xs[((xs.size : Int) - 1 + (m : Int) * (-1)).toNat]?) = ((List.range xs.size).map (fun k => xs.size - 1 - k)).filterMap (xs[·]?) := by
    rw [List.filterMap_map]
    refine fm_congr _ fun m hm => ?_
    have := List.mem_range.mp hm
    have e : ((xs.size : Int) - 1 + (m : Int) * (-1)).toNat = xs.size - 1 - m := by omega
    show xs[((xs.size : Int) - 1 + (m : Int) * (-1)).toNat]? = xs[xs.size - 1 - m]?
    rw [e]
  rw [e, PySem.W.krv_range, List.filterMap_reverse, PySem.W.krv_all]
theorem getItem_tuple_rev {t sl : Addr} {items : Array Value} {vl vu vs : Value} {Q : Value → Shared → Prop} (ht : IsTup s.heap t items) (hs : s.heap.IsSliceOf sl vl vu vs) (pl : IsPart vl none) (pu : IsPart vu none) (pk : IsPart vs (some (-1)))
    (h : Q (.ref s.heap.objs.size) { s with heap := s.heap.push { cls := .type "tuple", data := .seq items.toList.reverse.toArray } })
    (hsz : items.size ≤ sizeLine) : wpAny (model prog w) A (getItem (.ref t) (.ref sl)) Q E s := by
  have htake : sizeOk (.seq items.toList.reverse.toArray) := by
    show items.toList.reverse.toArray.size ≤ sizeLine
    rw [List.size_toArray, List.length_reverse, Array.length_toList]
    exact hsz
  obtain ⟨os, hos, hcs, hds⟩ := id hs
  have hTs : s.TypeIs (.ref sl) "slice" := ⟨os, hos, hcs⟩
  unfold getItem
  try with_reducible refine wpAny_holding ?_
  first | refine wpAny_bind (wpAny_pure ?_) | skip
  refine wpAny_bind (wpAny_sequenceKey ht.typeIs (by decide) ?_)
  refine wpAny_bind (wpAny_callSpecial?_slot (name := Str.ofString "__getitem__") ht.typeIs PyProof.Rows.slot_tuple_getitem
    (wpAny_call_entry PyProof.Rows.slot_tuple_getitem ht.typeIs entry_tuple_getitem ?_ (args_tuple_getitem _ _)))
  show wpAny _ _ (Builtin.Tuple.tupleItemsOf (.ref t) >>= _) _ _ s
  refine wpAny_bind (tupleItemsOf_ ht ?_)
  refine wpAny_bind (wpAny_typeOf hTs ?_)
  rw [if_pos (by decide)]
  refine wpAny_bind (sliceApplied_rev hs pl pu pk ?_)
  have hno : ¬ ((((items.size : Int) - 1) == 0 && (-1 : Int) == 1 && items.size == items.size) = true) := by
    intro q
    rw [Bool.and_eq_true, Bool.and_eq_true] at q
    have q1 := q.1.2
    revert q1
    decide
  show wpAny _ _ (if (((items.size : Int) - 1) == 0 && (-1 : Int) == 1 && items.size == items.size) = true then _ else _) _ _ s
  rw [if_neg hno, pick_rev]
  first
    | exact wpAny_bind (m := Builtin.Tuple.tupleExact _) (wpAny_newObj_type (wpAny_pure ⟨_, rfl, wpAny_pure h⟩) htake)
    | exact wpAny_bind (m := Builtin.Tuple.tupleExact _) (wpAny_newObj_type (wpAny_bind (wpAny_pure (wpAny_pure ⟨_, rfl, wpAny_pure h⟩))) htake)
end
end HT
namespace G
open PySem PySem.Spec PyProof.Rows L2
section
variable {X : Cx}
def tRevA (K : PySem.W.Frag) (te : TE) : TE := fun σ H Q => te σ H fun x H1 => ∃ a xs, x = .ref a ∧ ((SqL K H1 a xs ∧ ∀ p, H1 p = none → Q (.ref p) (upd H1 p (.lst xs.reverse))) ∨ (SqT K H1 a xs ∧ ∀ p, H1 p = none → Q (.ref p) (upd H1 p (.tup xs.reverse))))
theorem pe_revA {e : Expr} {te : TE} {k : Nat} {p1 p2 p3 pos : Pos} (he : PE X e te) : PE X (.Subscript e (.Slice none none (some (.UnaryOp .USub (.Constant (.int 1) k p1) p2)) p3) pos) (tRevA X.K te) := by
  refine ⟨fun pins s σ H Q I h => ?_⟩
  refine Subscript_ (thn (he.run pins s σ H _ I h) fun v s1 ⟨x, H1, I1, r1, q1⟩ => ?_)
  obtain ⟨a, xs, ex, q⟩ := q1
  subst ex
  cases r1
  have hst : PO X (some (.UnaryOp .USub (.Constant (.int 1) k p1) p2)) (tPart (tUn (rU fun i => .int (-i)) (tC (.int 1)))) := po_some (pe_un un_neg pe_int)
  refine wpAny_Slice (thn (po_none.run pins s1 σ H1 (fun o H2 => o = none ∧ H2 = H1) I1 ⟨rfl, rfl⟩) fun vl s2 ⟨l, H2, I2, pl, el, e2⟩ => ?_)
  subst el e2
  refine thn (po_none.run pins s2 σ H2 (fun o H3 => o = none ∧ H3 = H2) I2 ⟨rfl, rfl⟩) fun vu s3 ⟨u, H3, I3, pu, eu, e3⟩ => ?_
  subst eu e3
  refine thn (hst.run pins s3 σ H3 (fun o H4 => o = some (-1) ∧ H4 = H3) I3 ⟨1, rfl, -1, rfl, rfl, rfl⟩) fun vs s4 ⟨o, H4, I4, ps, eo, e4⟩ => ?_
  subst eo e4
  have I5 : Inv X pins σ H4 { s4 with heap := s4.heap.push { cls := .type "slice", data := .fields #[vl, vu, vs] } } := I4.kept (t' := s4.toks) fun b ob q => Heap.get?_push_of_some _ q
  show wpAny (model X.prog X.w) X.A (subscriptTail e (.Slice none none (some (.UnaryOp .USub (.Constant (.int 1) k p1) p2)) p3) (.ref a) (.ref s4.heap.objs.size)) (EP X pins σ Q) X.xe { s4 with heap := s4.heap.push { cls := .type "slice", data := .fields #[vl, vu, vs] } }
  rcases q with ⟨hx, q⟩ | ⟨hx, q⟩
  · obtain ⟨its, r, ht, hz⟩ := I5.list hx
    have hlen := r.length
    refine tail_any (ops := [.ref a, .ref s4.heap.objs.size]) ht.isList.typeIs (PySem.slot_list_getitem.lookup) ?_ (by with_unfolding_all rfl)
    refine wpAny_getItem_list_slice ht.isList (Heap.IsSliceOf.new _ vl vu vs) pl pu ps (by decide) ?_ (by rw [List.size_toArray]; omega)
    rw [PySem.W.krv_pick]
    refine ⟨.ref _, _, I5.laid (t' := s4.toks) (o := .lst xs.reverse) (fun b ob q => Heap.get?_push_of_some _ q) (Nat.le_refl _) ?_, rfl, q _ (I5.hok.fresh (Nat.le_refl _))⟩
    exact ⟨by rw [List.length_reverse]; exact hz, _, 0, r.reverse, Heap.get?_push_size _ rfl⟩
  · obtain ⟨its, r, ht, hz⟩ := I5.tuple hx
    have hlen := r.length
    refine tail_any (ops := [.ref a, .ref s4.heap.objs.size]) ht.typeIs (PyProof.Rows.slot_tuple_getitem.lookup) ?_ (by with_unfolding_all rfl)
    refine HT.getItem_tuple_rev ht (Heap.IsSliceOf.new _ vl vu vs) pl pu ps ?_ (by rw [List.size_toArray]; omega)
    refine ⟨.ref _, _, I5.laid (t' := s4.toks) (o := .tup xs.reverse) (fun b ob q => Heap.get?_push_of_some _ q) (Nat.le_refl _) ?_, rfl, q _ (I5.hok.fresh (Nat.le_refl _))⟩
    exact ⟨by rw [List.length_reverse]; exact hz, _, r.reverse, IsTup.new _ _⟩
end
end G

/-! The engine, part 9: expressions are sound. -/
namespace G
open PySem PySem.Spec PyProof.Rows L2
section
variable {C : Cfg} {K : PySem.W.Frag} {PX : PXT} {X : Cx}
def tI (C : Cfg) (K : PySem.W.Frag) (PX : PXT) (it : It) : TI := fun σ H R => ∃ α ρ S, EnvR K H α σ ρ ∧ StR K H α S ∧ Pst K PX α H (evI C it ρ S) (fun w α' H' _ => ∀ J, WkR K J w α' H' → R J H')
def tC (C : Cfg) (K : PySem.W.Frag) (PX : PXT) (c : Eo) : TT := fun σ H Q => ∃ α ρ S, EnvR K H α σ ρ ∧ StR K H α S ∧ Pst K PX α H (evC C c ρ S) (fun b _ H' _ => Q b H')
def tAn (C : Cfg) (K : PySem.W.Frag) (PX : PXT) (es : Es) : TE := fun σ H Q => ∃ α ρ S, EnvR K H α σ ρ ∧ StR K H α S ∧ Pst K PX α H (evA C es ρ S) (VF K Q)
def tOn (C : Cfg) (K : PySem.W.Frag) (PX : PXT) (es : Es) : TE := fun σ H Q => ∃ α ρ S, EnvR K H α σ ρ ∧ StR K H α S ∧ Pst K PX α H (evO C es ρ S) (VF K Q)
def tAT (C : Cfg) (K : PySem.W.Frag) (PX : PXT) (es : Es) : TT := fun σ H Q => ∃ α ρ S, EnvR K H α σ ρ ∧ StR K H α S ∧ Pst K PX α H (evAT C es ρ S) (fun b _ H' _ => Q b H')
def tOT (C : Cfg) (K : PySem.W.Frag) (PX : PXT) (es : Es) : TT := fun σ H Q => ∃ α ρ S, EnvR K H α σ ρ ∧ StR K H α S ∧ Pst K PX α H (evOT C es ρ S) (fun b _ H' _ => Q b H')
/-- a slice's part -/
def tP (C : Cfg) (K : PySem.W.Frag) (PX : PXT) (o : Eo) : TO := fun σ H Q => ∃ α ρ S, EnvR K H α σ ρ ∧ StR K H α S ∧ Pst K PX α H (evOp C o ρ S) (fun i _ H' _ => Q i H')
theorem PO.imp {e : Option Expr} {t t' : TO} (h : PO X e t') (i : ∀ σ H Q, t σ H Q → t' σ H Q) : PO X e t := ⟨fun pins s σ H Q I q => h.run pins s σ H Q I (i σ H Q q)⟩
theorem PTs.imp {e : List Expr} {t t' : TT} (h : PTs X e t') (i : ∀ σ H Q, t σ H Q → t' σ H Q) : PTs X e t := ⟨fun pins s σ H Q I q => h.run pins s σ H Q I (i σ H Q q)⟩
theorem PW.imp {e : Expr} {t t' : TT} (h : PW X e t') (i : ∀ σ H Q, t σ H Q → t' σ H Q) : PW X e t := ⟨fun wh pins s σ H Q I q => h.run wh pins s σ H Q I (i σ H Q q)⟩
theorem PI.imp {tg e : Expr} {t t' : TI} (h : PI X tg e t') (i : ∀ σ H Q, t σ H Q → t' σ H Q) : PI X tg e t := ⟨fun pins s σ H Q I q => h.run pins s σ H Q I (i σ H Q q)⟩
theorem pt_tru {e : E} {x : Expr} (h : PE X x (tE C X.K PX e)) (he : ∀ whole, isTrue x X.env whole = (do let v ← whole; standAt x.pos; holding [v] (truthy v))) (hT : ∀ ρ S, evT C e ρ S = (evE C e ρ S).bind fun d S => truth d S) : PT X x (tT C X.K PX e) := by
  refine PT.imp (pt_truth h he) fun σ H Q q => ?_
  obtain ⟨α, ρ, S, env, st, p⟩ := q
  rw [hT] at p
  exact stepE env st p fun d α' H' S' v st' e' rv p' => truV_of rv st' p'
theorem both {e : E} {x : Expr} (h : PE X x (tE C X.K PX e)) (he : ∀ whole, isTrue x X.env whole = (do let v ← whole; standAt x.pos; holding [v] (truthy v))) (hT : ∀ ρ S, evT C e ρ S = (evE C e ρ S).bind fun d S => truth d S) : PE X x (tE C X.K PX e) ∧ PT X x (tT C X.K PX e) := ⟨h, pt_tru h he hT⟩
theorem cmp_bl {o : Co} {x y d : D} {S S' : Sto} (h : cmpD o x y S = .ok d S') : ∃ b, d = .bl b := by
  cases o <;> simp only [cmpD, eqR, inD] at h <;> (repeat' (split at h)) <;> first
    | (cases h; exact ⟨_, rfl⟩)
    | cases h
theorem cmp_tru {K : PySem.W.Frag} {PX : PXT} {α : List Addr} {H : Hp} {S : Sto} {o : Co} {x y : D} {Q : Bool → Hp → Prop} (p : Pst K PX α H ((cmpD o x y S).bind fun d S => truth d S) (fun b _ H' _ => Q b H')) :
    Pst K PX α H (cmpD o x y S) (VF K fun x H' => ∃ k, x = .bl k ∧ Q k H') := by
  cases q : cmpD o x y S with
  | ok d S' =>
    obtain ⟨b, rfl⟩ := cmp_bl q
    rw [q] at p
    intro α' H' st e v rv
    exact ⟨b, of_bl rv, p α' H' st e⟩
  | ex c ds S' => rw [q] at p; exact p
  | bad => rw [q] at p; exact p
theorem step2' {a b : E} {f : D → D → Sto → R D} {g : D → Sto → R Bool} {Q : Bool → Hp → Prop} {r : R2} {α : List Addr} {ρ : Env} {σ : L2.St} {S : Sto} {H : Hp}
    (hg : ∀ x y α' H' S', Pst K PX α' H' ((f x y S').bind g) (fun b _ H' _ => Q b H') → Pst K PX α' H' (f x y S') (VF K fun x H' => ∃ k, x = .bl k ∧ Q k H'))
    (hr : ∀ x y H Q, rVal K (l2 f) [x, y] H Q → r x y H Q) (env : EnvR K H α σ ρ) (st : StR K H α S)
    (p : Pst K PX α H (((evE C a ρ S).bind fun x S => (evE C b ρ S).bind fun y S => f x y S).bind g) (fun b _ H' _ => Q b H')) : tTest (tOp r (tE C K PX a) (tE C K PX b)) σ H Q := by
  have p' : Pst K PX α H ((evE C a ρ S).bind fun x S => (evE C b ρ S).bind fun y S => (f x y S).bind g) (fun b _ H' _ => Q b H') := by
    cases q : evE C a ρ S with
    | ok x S1 =>
      rw [q] at p
      simp only [bind_ok] at p ⊢
      cases q2 : evE C b ρ S1 with
      | ok y S2 => rw [q2] at p; exact p
      | ex c ds S2 => rw [q2] at p; exact p
      | bad => rw [q2] at p; exact p
    | ex c ds S1 => rw [q] at p; exact p
    | bad => rw [q] at p; exact p
  exact stepE env st p' fun d α1 H1 S1 v st1 e1 rv p1 => stepE (env.mono e1) st1 p1 fun d' α2 H2 S2 v' st2 e2 rv' p2 =>
    hr v v' H2 _ ⟨PX, α2, S2, [d, d'], .cons (rv.mono e2 _ _) (.cons rv' .nil), st2, hg _ _ _ _ _ p2⟩
/-! ### displays of dicts -/
def trsOf (C : Cfg) (K : PySem.W.Frag) (PX : PXT) : List Str → Es → List (TE × TE)
  | k :: ks, .cons e es => (L2.tC (.str k), tE C K PX e) :: trsOf C K PX ks es
  | _, _ => []
def esLen : Es → Nat
  | .nil => 0
  | .cons _ es => esLen es + 1
theorem chkEs_len {T : Tab} {N : List Str} {sc : Scope} : ∀ (es : Es) (xs : List Expr), chkEs T N es sc xs = true → xs.length = esLen es
  | .nil, xs, h => by
    cases xs with
    | nil => rfl
    | cons _ _ => simp [chkEs] at h
  | .cons e es, xs, h => by
    cases xs with
    | nil => simp [chkEs] at h
    | cons x xs =>
      simp only [chkEs, Bool.and_eq_true] at h
      rw [List.length_cons, chkEs_len es xs h.2]
      rfl
theorem pairs_imp {ρ : Env} {σ : L2.St} : ∀ (es : Es) (ks : List Str) {Q : List (V × V) → Hp → Prop} {S : Sto} {H : Hp} {α : List Addr}, ks.length = esLen es → EnvR K H α σ ρ → StR K H α S →
    Pst K PX α H (evEs C es ρ S) (fun ds α' H' S' => ∀ vs, Reps K H' α' ds vs → Q ((ks.zip vs).map fun p => (V.str p.1, p.2)) H') → tPairs (trsOf C K PX ks es) σ H Q
  | .nil, ks, Q, S, H, α, hk, env, st, p => by
    simp only [evEs] at p
    have e : ks = [] := List.eq_nil_of_length_eq_zero hk
    subst e
    exact p α H st .refl [] .nil
  | .cons e es, [], Q, S, H, α, hk, env, st, p => by cases hk
  | .cons e es, k :: ks, Q, S, H, α, hk, env, st, p => by
    simp only [evEs] at p
    show tE C K PX e σ H _
    refine stepE env st p fun d α1 H1 S1 v st1 e1 rv p1 => ?_
    refine pairs_imp (S := S1) (H := H1) (α := α1) es ks (by simpa [esLen] using hk) (env.mono e1) st1 (p1.bind.imp fun ds α2 H2 S2 st2 e2 p2 => ?_)
    exact fun vs rs => p2 α2 H2 st2 .refl (v :: vs) (.cons (rv.mono e2 _ _) rs)
theorem keysB_len : ∀ (ks : List Str) (es : List (Option Expr)), keysB ks es = true → es.length = ks.length ∧ es.all (·.isSome) = true
  | [], es, h => by
    cases es with
    | nil => exact ⟨rfl, rfl⟩
    | cons _ _ => simp [keysB] at h
  | k :: ks, es, h => by
    simp only [keysB] at h
    split at h
    · simp only [Bool.and_eq_true] at h
      obtain ⟨h1, h2⟩ := keysB_len ks _ h.2
      exact ⟨by rw [List.length_cons, h1]; rfl, by rw [List.all_cons, h2]; rfl⟩
    · cases h
theorem merge_rep {α : List Addr} {H : Hp} : ∀ (ks : List Str) (ds : List D) (vs : List V) {kvs : List (L2.Key × D)} {ws : List (L2.Key × V)}, Reps K H α ds vs → RepKV K H α kvs ws →
    RepKV K H α ((ks.zip ds).foldl (fun acc kv => putK acc (.inr kv.1) kv.2) kvs) (mergeK ws ((ks.zip vs).map fun p => ((.inr p.1 : L2.Key), p.2)))
  | [], ds, vs, kvs, ws, rs, r => by simpa [mergeK] using r
  | k :: ks, [], vs, kvs, ws, rs, r => by rw [rs.nil_inv]; simpa [mergeK] using r
  | k :: ks, d :: ds, vs, kvs, ws, rs, r => by
    obtain ⟨v, vr, rfl, r1, r2⟩ := rs.cons_inv
    simp only [List.zip_cons_cons, List.foldl_cons, List.map_cons, mergeK]
    exact merge_rep ks ds vr r2 (putK_rep r1 r)
/-- a list, a tuple, a list that nobody writes -/
def iAny (K : PySem.W.Frag) (tl : TE) : TI := fun σ H R => tl σ H fun x H1 => ∃ a, x = .ref a ∧ (((∃ xs, SqL K H1 a xs) ∧ R (Itl K a) H1) ∨ ((∃ xs, SqT K H1 a xs) ∧ R (Itt K a) H1))
theorem pi_any {tg l : Expr} {tl : TE} (hl : PE X l tl) : PI X tg l (iAny X.K tl) := by
  refine ⟨fun pins s σ H R I h => ?_⟩
  refine thn (hl.run pins s σ H _ I h) fun v s1 ⟨x, H1, I1, r1, q1⟩ => ?_
  obtain ⟨a, e, q⟩ := q1
  subst e
  cases r1
  rcases q with ⟨⟨xs, hq⟩, q⟩ | ⟨⟨xs, hq⟩, q⟩
  · obtain ⟨its, rv, p, hz⟩ := I1.list hq
    refine wpAny_pyIter_list p.isList ?_
    refine ⟨s1.heap.objs.size, [s1.heap.objs.size], _, _, H1, rfl, I1.kept (t' := s1.toks) fun b o e => Heap.get?_push_of_some _ e, turn_list a _, ⟨_, Heap.get?_push_size _ rfl, rfl, rfl⟩, fun b hb => ?_, q⟩
    have e : b = s1.heap.objs.size := by simpa using hb
    subst e
    exact I1.fpOk (Nat.le_refl _) (I1.hok.fresh (Nat.le_refl _))
  · obtain ⟨its, rv, p, hz⟩ := I1.tuple hq
    refine wpAny_pyIter_tuple (show s1.heap.IsTuple a its.toArray from p) ?_
    refine ⟨s1.heap.objs.size, [s1.heap.objs.size], _, _, H1, rfl, I1.kept (t' := s1.toks) fun b o e => Heap.get?_push_of_some _ e, turn_tuple a _, ⟨_, Heap.get?_push_size _ rfl, rfl, rfl⟩, fun b hb => ?_, q⟩
    have e : b = s1.heap.objs.size := by simpa using hb
    subst e
    exact I1.fpOk (Nat.le_refl _) (I1.hok.fresh (Nat.le_refl _))
/-- a display's, a call's arguments -/
theorem star_any {T : Tab} {N : List Str} {sc : Scope} {env : PySem.Env} : ∀ (es : Es) (xs : List Expr), chkEs T N es sc xs = true → starEach xs env = xs.map fun x => (false, eval x env)
  | .nil, xs, h => by
    cases xs with
    | nil => rfl
    | cons _ _ => simp [chkEs] at h
  | .cons e es, xs, h => by
    cases xs with
    | nil => simp [chkEs] at h
    | cons x xs =>
      simp only [chkEs, Bool.and_eq_true] at h
      rw [star_of h.1, star_any es xs h.2]
      rfl
theorem back_any {xs : List Expr} {env : PySem.Env} {pos : Pos} (h : starEach xs env = xs.map fun x => (false, eval x env)) : (backTo pos (starEach xs env)).any (·.1) = false := by
  rw [h]
  unfold backTo
  rw [List.map_map, List.any_map]
  simp
theorem back_all {xs : List Expr} {env : PySem.Env} {pos : Pos} (h : starEach xs env = xs.map fun x => (false, eval x env)) : (backTo pos (starEach xs env)).all (fun x => !x.1) = true := by
  rw [h]
  unfold backTo
  rw [List.map_map, List.all_map]
  simp
def Mt.slot : (m : Mt) → Slot "list" m.nm m.id
  | .app => PySem.F.slot_list_append
  | .pop => PySem.F.slot_list_pop
  | .ext => PySem.F.slot_list_extend
theorem Mt.ty : (m : Mt) → typeOf (.builtin m.id) = pure (.type "method_descriptor")
  | .app => PySem.F.type_list_append
  | .pop => PySem.F.type_list_pop
  | .ext => PySem.F.type_list_extend
theorem recv_ok {x : Expr} {n : Str} {env : PySem.Env} (h : recv x = true) : attributeBase x n env (eval x env) = eval x env := by
  cases x <;> first
    | rfl
    | cases h
def Bi.isTy : Bi → Option String
  | .int => some "int"
  | .tuple => some "tuple"
  | .list => some "list"
  | _ => none
theorem pe_bi {b : Bi} {x : Expr} {xs : List Expr} {p pos : Pos} {t : TA} {r : List V → Hp → VK → Prop} (hc : CallR X b.fn r) (hg : Gl X b.nm) (hm : X.mg b.nm = none) (ha : PA X (x :: xs) t)
    (he : starEach (x :: xs) X.env = (false, eval x X.env) :: starEach xs X.env) (hpl : (backTo pos (starEach xs X.env)).any (·.1) = false) : PE X (.Call (.Name b.nm p) (x :: xs) [] pos) (tCB r t) := by
  cases b with
  | len => exact pe_callB hc hg hm boot_len ha (by decide) (by decide) he hpl
  | int => exact pe_callTy hc hg hm boot_int ha (by decide) (by decide) he hpl
  | abs => exact pe_callB hc hg hm boot_abs ha (by decide) (by decide) he hpl
  | max2 => exact pe_callB hc hg hm boot_max ha (by decide) (by decide) he hpl
  | min2 => exact pe_callB hc hg hm boot_min ha (by decide) (by decide) he hpl
  | sum => exact pe_callB hc hg hm boot_sum ha (by decide) (by decide) he hpl
  | tuple => exact pe_callTy hc hg hm boot_tuple ha (by decide) (by decide) he hpl
  | list => exact pe_callTy hc hg hm boot_list ha (by decide) (by decide) he hpl
  | repr => exact pe_callB hc hg hm boot_repr ha (by decide) (by decide) he hpl
theorem un_negG : UnR X (unaryOp .USub) (fun x H Q => ∃ i, x = .int i ∧ Q (.int (-i)) H) := by
  intro pins s σ H x v Q I rx h
  obtain ⟨i, rfl, q⟩ := h
  exact un_neg pins s σ H _ v Q I rx ⟨i, rfl, q⟩
end
/-! ### a comprehension's turns -/
section
variable {K : PySem.W.Frag} {PX : PXT} {α1 : List Addr} {H1 : Hp} {J : L2.It} {w : Wk} {turn : D → Sto → R (Option D)} {Q : VK}
/-- what holds between a comprehension's turns -/
def LcI (K : PySem.W.Frag) (PX : PXT) (α1 : List Addr) (H1 : Hp) (w : Wk) (turn : D → Sto → R (Option D)) (D' : Addr) (Q : VK) (i m : Nat) (H : Hp) : Prop :=
  ∃ α S acc vs, StR K H α S ∧ Ext α1 H1 α H ∧ H D' = some (.lst vs) ∧ D' ∉ α ∧ Reps K H α acc vs ∧ Pst K PX α1 H1 ((lcGo w turn m i acc S).bind fun ds S => alloc (.lst ds) S) (VF K Q)
theorem lc_stop {D' : Addr} {m i : Nat} {H : Hp} (wk : WkR K J w α1 H1) (hn : H1 D' = none) (h : LcI K PX α1 H1 w turn D' Q i m H) :
    (J.stop i H ∧ Q (.ref D') H) ∨ ∃ f α S acc vs d, m = f + 1 ∧ StR K H α S ∧ Ext α1 H1 α H ∧ H D' = some (.lst vs) ∧ D' ∉ α ∧ Reps K H α acc vs ∧ w.at i S = some (some d) ∧
      Pst K PX α1 H1 ((match turn d S with
      | .ok (some y) S' => if acc.length < lineN then lcGo w turn f (i + 1) (acc ++ [y]) S' else .bad
      | .ok none S' => lcGo w turn f (i + 1) acc S'
      | _ => .bad : R (List D)).bind fun ds S => alloc (.lst ds) S) (VF K Q) := by
  obtain ⟨α, S, acc, vs, st, e, hD, nD, rs, p⟩ := h
  cases m with
  | zero => exact p.elim
  | succ f =>
    unfold lcGo at p
    cases q : w.at i S with
    | none => rw [q] at p; exact p.elim
    | some o =>
      cases o with
      | none =>
        rw [q] at p
        refine .inl ⟨wk.stop α H S i e st q, ?_⟩
        exact p (α ++ [D']) H (st.adopt hD rfl nD ⟨vs, hD, rs.wide hD rfl⟩) (e.adopt hn) (.ref D') (rep_ref (at_end st))
      | some d =>
        rw [q] at p
        exact .inr ⟨f, α, S, acc, vs, d, rfl, st, e, hD, nD, rs, q, p⟩
end
theorem lc_imp {T : Tab} {wf k : Nat} {K : PySem.W.Frag} {PX PN : PXT} {own : List Nat} {tg : Tg} {it : It} {c : Eo} {e : E} {σ : L2.St} {H : Hp} {Q : VK} (h2 : (tgIx tg).all (fun i => decide (i ∈ own)) = true)
    (q : tE (T.cfg wf k) K PX (.lc own tg it c e) σ H Q) : tLc (tI (T.cfg wf k) K PX it) (tG K tg) (tC (T.cfg wf k) K PN c) (tE (T.cfg wf k) K PN e) own σ H Q := by
  obtain ⟨α, ρ, S, env, st, p⟩ := q
  simp only [evE] at p
  refine ⟨α, ρ, S, env, st, p.bind.imp fun w α1 H1 S1 st1 e1 p1 => fun J wk D' hD => ?_⟩
  refine ⟨fun i m H => LcI K PX α1 H1 w _ D' Q i m H, ⟨w.fuel, α1, S1, [], [], st1.laid hD, .laid hD, upd_same, st1.fresh hD, .nil, p1⟩, fun i m H hL => ?_⟩
  rcases lc_stop wk hD hL with q | ⟨f, α2, S2, acc, vs, d, rfl, st2, e2, hDl, nD, rs, hat, p2⟩
  · exact .inl q
  · obtain ⟨g1, g2⟩ := wk.go α2 H S2 i d e2 st2 hat
    refine .inr ⟨g1, fun H' => LcI K PX α1 H1 w _ D' Q (i + 1) f H', fun H' h' => ⟨f, Nat.lt_succ_self f, h'⟩, fun x H' y => ?_⟩
    obtain ⟨α3, st3, e3, rx⟩ := g2 x H' y
    cases qa : asgT tg d (G.wipe ρ own) with
    | none => simp only [qa] at p2; exact p2.elim
    | some ρ' =>
    simp only [qa] at p2
    refine ⟨α3, G.wipe ρ own, d, ρ', ((env.mono e1).mono (e2.trans e3)).wipe own, rx, qa, fun σ2 env2 l2 s2 => ⟨wipe_same own (tgIx tg) σ σ2 l2 s2 (fun i hi => by simpa using List.all_eq_true.mp h2 i hi), ?_⟩⟩
    refine ⟨α3, ρ', S2, env2, st3, ?_⟩
    cases qc : evC (T.cfg wf k) c ρ' S2 with
    | bad => simp only [qc, bind_bad] at p2; exact p2.elim
    | ex cc ds S' => simp only [qc, bind_ex] at p2; exact p2.elim
    | ok b S' =>
    simp only [qc, bind_ok] at p2
    intro α4 H4 st4 e4
    have hD4 := (e3.trans e4).fr D' _ hDl nD
    have nD4 := (e3.trans e4).notin nD hDl
    have rs4 := rs.mono (e3.trans e4) _ _
    cases b with
    | false =>
      simp only [Bool.false_eq_true, if_false] at p2 ⊢
      exact ⟨α4, S', acc, vs, st4, (e2.trans e3).trans e4, hD4, nD4, rs4, p2⟩
    | true =>
      simp only [if_true] at p2 ⊢
      refine ⟨α4, ρ', S', env2.mono e4, st4, ?_⟩
      cases qe : evE (T.cfg wf k) e ρ' S' with
      | bad => simp only [qe, bind_bad] at p2; exact p2.elim
      | ex cc ds S'' => simp only [qe, bind_ex] at p2; exact p2.elim
      | ok yv S'' =>
      simp only [qe, bind_ok] at p2
      intro α5 H5 st5 e5 v rv
      have hD5 := e5.fr D' _ hD4 nD4
      have nD5 := e5.notin nD4 hD4
      have rs5 := (rs4.mono e5 _ _).append (.cons rv .nil)
      split at p2
      · rename_i hz
        have r6 := Reps.out (u := .lst (vs ++ [v])) hD5 rfl (β := []) _ _ rs5
        rw [List.append_nil] at r6
        exact ⟨vs, hD5, by rw [rs.length, ← lineN_eq]; exact hz, α5, S'', acc ++ [yv], vs ++ [v], st5.out hD5 rfl nD5, (((e2.trans e3).trans e4).trans e5).out hD, upd_same, nD5, r6, p2⟩
      · exact p2.elim
section
variable {T : Tab} {N : List Str} {wf k : Nat} {CX : CXT}
theorem OkX.blk {W : XK} {X : Cx} (ok : OkX T wf k CX W X) (hnx : ∀ outer H s e s', CX outer H s (fun _ _ _ => False) e s' → False) (s : Shared) (H : Hp) (scope : Scope) (cenv : PySem.Env) (fp : List Addr) :
    OkX T wf k CX (fun _ _ _ => False) (X.blk s H scope cenv fp) :=
  ⟨ok.calm, ok.nd, ok.room, ok.gd, ok.free, ok.gls, ok.fns, fun _ _ _ _ _ _ _ h => (hnx _ _ _ _ _ h).elim⟩
theorem sound_C0 {C : Cfg} {K : PySem.W.Frag} {PX : PXT} {X : Cx} (hK : X.K = K) : PTs X [] (tC C K PX .none) :=
  PTs.imp pts_nil fun σ H Q q => by
    obtain ⟨α, ρ, S, env, st, p⟩ := q
    simp only [evC] at p
    exact p α H st .refl
variable (hnx : ∀ outer H s e s', CX outer H s (fun _ _ _ => False) e s' → False)
include hnx
mutual
theorem sound_E : ∀ (e : E) (X : Cx) (W : XK) (x : Expr) (sc : Scope), OkX T wf k CX W X → X.env.scope = sc → X.N = N → chkE T N e sc x = true →
    PE X x (tE (T.cfg wf k) X.K (PXE X.K W) e) ∧ PT X x (tT (T.cfg wf k) X.K (PXE X.K W) e)
  | .v i, X, W, x, sc, ok, hs, hN, h => by
    cases x with
    | Name n p =>
      simp only [chkE, Bool.and_eq_true, decide_eq_true_eq] at h
      obtain ⟨⟨h1, h2⟩, h3⟩ := h
      obtain ⟨d1, d2, d3⟩ := plainNm_ok h3
      subst hs
      have g : PE X (.Name n p) (tE (T.cfg wf k) X.K (PXE X.K W) (.v i)) := PE.imp (pe_var (by rw [hN]; exact h1) (isVis_ok h2) d1 d2) fun σ H Q q => by
        obtain ⟨α, ρ, S, env, st, p⟩ := q
        simp only [evE] at p
        split at p
        · rename_i d e
          obtain ⟨v, e1, rv⟩ := env.2 i d e
          exact ⟨v, e1, p α H st .refl v rv⟩
        · exact p.elim
      exact ⟨g, pt_tru g (fun _ => rfl) fun ρ S => by simp only [evT]⟩
    | _ => simp [chkE] at h
  | .k d, X, W, x, sc, ok, hs, hN, h => by
    cases x with
    | Constant c kk p =>
      simp only [chkE] at h
      have g : PE X (.Constant c kk p) (tE (T.cfg wf k) X.K (PXE X.K W) (.k d)) := by
        have fin : ∀ {v : V} {σ : L2.St} {H : Hp} {Q : VK}, tE (T.cfg wf k) X.K (PXE X.K W) (.k d) σ H Q → (∀ α, Rep X.K H α d v) → Q v H := fun q r => by
          obtain ⟨α, ρ, S, env, st, p⟩ := q
          simp only [evE] at p
          exact p α _ st .refl _ (r α)
        unfold kOk at h
        split at h
        · rw [decide_eq_true_eq] at h; subst h; exact PE.imp pe_int fun σ H Q q => fin q fun _ => rep_int
        · rw [decide_eq_true_eq] at h; subst h; exact PE.imp pe_bl fun σ H Q q => fin q fun _ => rep_bl
        · rw [decide_eq_true_eq] at h; subst h; exact PE.imp pe_str fun σ H Q q => fin q fun _ => rep_str
        · exact PE.imp pe_non fun σ H Q q => fin q fun _ => rep_non
        · cases h
      exact ⟨g, pt_tru g (fun _ => rfl) fun ρ S => by simp only [evT]⟩
    | _ => simp [chkE] at h
  | .g n, X, W, x, sc, ok, hs, hN, h => by
    cases x with
    | Name y p =>
      simp only [chkE, Bool.and_eq_true] at h
      obtain ⟨⟨h1, h2⟩, h3⟩ := h
      obtain ⟨d1, d2, d3⟩ := plainNm_ok h2
      split at h3
      · rename_i pr eg
        rw [decide_eq_true_eq] at h3
        subst h3 hs
        obtain ⟨u, hu, gv⟩ := ok.gls n pr eg
        have g : PE X (.Name pr.1 p) (tE (T.cfg wf k) X.K (PXE X.K W) (.g n)) := by
          have fin : ∀ {v : V} {σ : L2.St} {H : Hp} {Q : VK}, tE (T.cfg wf k) X.K (PXE X.K W) (.g n) σ H Q → (∀ α, Rep X.K H α pr.2 v) → Q v H := fun q r => by
            obtain ⟨α, ρ, S, env, st, p⟩ := q
            simp only [evE, eg, Option.map_some] at p
            exact p α _ st .refl _ (r α)
          obtain ⟨nm, d⟩ := pr
          cases d with
          | int i => exact PE.imp (pe_glob (v := .int i) (isGl_ok h1) hu gv d1) fun σ H Q q => fin q fun _ => rep_int
          | str i => exact PE.imp (pe_glob (v := .str i) (isGl_ok h1) hu gv d1) fun σ H Q q => fin q fun _ => rep_str
          | bl i => exact PE.imp (pe_glob (v := .bl i) (isGl_ok h1) hu gv d1) fun σ H Q q => fin q fun _ => rep_bl
          | non => exact PE.imp (pe_glob (v := .non) (isGl_ok h1) hu gv d1) fun σ H Q q => fin q fun _ => rep_non
          | _ => exact False.elim gv
        exact ⟨g, pt_tru g (fun _ => rfl) fun ρ S => by simp only [evT]⟩
      · cases h3
    | _ => simp [chkE] at h
  | .bin o a b, X, W, x, sc, ok, hs, hN, h => by
    cases x with
    | BinOp l op r p =>
      simp only [chkE, Bool.and_eq_true, decide_eq_true_eq] at h
      obtain ⟨⟨rfl, h1⟩, h2⟩ := h
      have g : PE X (.BinOp l o.op r p) (tE (T.cfg wf k) X.K (PXE X.K W) (.bin o a b)) := PE.imp (pe_op (op_bin o) (sound_E a X W l sc ok hs hN h1).1 (sound_E b X W r sc ok hs hN h2).1) fun σ H Q q => by
        obtain ⟨α, ρ, S, env, st, p⟩ := q
        simp only [evE] at p
        exact step2 (fun _ _ _ _ z => z) env st p
      exact ⟨g, pt_tru g (fun _ => rfl) fun ρ S => by simp only [evT]⟩
    | _ => simp [chkE] at h
  | .neg a, X, W, x, sc, ok, hs, hN, h => by
    cases x with
    | UnaryOp op l p =>
      simp only [chkE, Bool.and_eq_true, decide_eq_true_eq] at h
      obtain ⟨rfl, h1⟩ := h
      have g : PE X (.UnaryOp .USub l p) (tE (T.cfg wf k) X.K (PXE X.K W) (.neg a)) := PE.imp (pe_un un_negG (sound_E a X W l sc ok hs hN h1).1) fun σ H Q q => by
        obtain ⟨α, ρ, S, env, st, p⟩ := q
        simp only [evE] at p
        refine stepE env st p fun d α' H' S' v st' e' rv p' => ?_
        split at p'
        · exact ⟨_, of_int rv, ok_now st' p' rep_int⟩
        · exact p'.elim
      exact ⟨g, pt_tru g (fun _ => rfl) fun ρ S => by simp only [evT]⟩
    | _ => simp [chkE] at h
  | .cmp o a b, X, W, x, sc, ok, hs, hN, h => by
    cases x with
    | Compare l ops rs p =>
      simp only [chkE] at h
      split at h
      · rename_i op r
        simp only [Bool.and_eq_true, decide_eq_true_eq] at h
        obtain ⟨⟨rfl, h1⟩, h2⟩ := h
        have hu : X.A.units + 65 < cLine := by have := ok.room.un; omega
        refine ⟨PE.imp (pe_cmpR (op_cmp hu o) (sound_E a X W l sc ok hs hN h1).1 (sound_E b X W r sc ok hs hN h2).1 (mark_of h2)) fun σ H Q q => ?_,
          PT.imp (pt_cmpR (op_cmp hu o) (sound_E a X W l sc ok hs hN h1).1 (sound_E b X W r sc ok hs hN h2).1 (mark_of h2)) fun σ H Q q => ?_⟩
        · obtain ⟨α, ρ, S, env, st, p⟩ := q
          simp only [evE] at p
          exact step2 (fun _ _ _ _ z => z) env st p
        · obtain ⟨α, ρ, S, env, st, p⟩ := q
          simp only [evT, evE] at p
          exact step2' (fun x y α' H' S' => cmp_tru) (fun _ _ _ _ z => z) env st p
      · cases h
    | _ => simp [chkE] at h
  | .chain o o' a b c, X, W, x, sc, ok, hs, hN, h => by
    cases x with
    | Compare l ops rs p =>
      simp only [chkE] at h
      split at h
      · rename_i op op' m r
        simp only [Bool.and_eq_true, decide_eq_true_eq] at h
        obtain ⟨⟨⟨⟨rfl, rfl⟩, h1⟩, h2⟩, h3⟩ := h
        have hu : X.A.units + 65 < cLine := by have := ok.room.un; omega
        have hm : lastMarks [o.op, o'.op] [m, r] = false := by show behindInMarks o'.op r = false; exact mark_of h3
        have key : ∀ (σ : L2.St) (H : Hp) (Q : VK) {γ : Type} (g : D → Sto → R γ) (F : γ → List Addr → Hp → Sto → Prop) (α : List Addr) (ρ : Env) (S : Sto),
            (∀ d α' H' S', StR X.K H' α' S' → Pst X.K (PXE X.K W) α' H' (g d S') F → (∃ b, d = .bl b) → ∀ v, Rep X.K H' α' d v → Q v H') →
            EnvR X.K H α σ ρ → StR X.K H α S →
            Pst X.K (PXE X.K W) α H ((evE (T.cfg wf k) (.chain o o' a b c) ρ S).bind g) F →
            tChain (rC X.K o) (rC X.K o') (tE (T.cfg wf k) X.K (PXE X.K W) a) (tE (T.cfg wf k) X.K (PXE X.K W) b) (tE (T.cfg wf k) X.K (PXE X.K W) c) σ H Q := by
          intro σ H Q γ g F α ρ S hg env st p
          simp only [evE] at p
          cases qa : evE (T.cfg wf k) a ρ S with
          | bad => rw [qa] at p; exact p.elim
          | ex cc ds S1 => rw [qa] at p; exact ⟨α, ρ, S, env, st, by rw [qa]; exact p⟩
          | ok xx S1 =>
          rw [qa] at p
          simp only [bind_ok] at p
          refine ⟨α, ρ, S, env, st, ?_⟩
          rw [qa]
          intro α1 H1 st1 e1 v rv
          cases qb : evE (T.cfg wf k) b ρ S1 with
          | bad => rw [qb] at p; exact p.elim
          | ex cc ds S2 => rw [qb] at p; exact ⟨α1, ρ, S1, env.mono e1, st1, by rw [qb]; exact fun α2 H2 s2 e2 => p α2 H2 s2 (e1.trans e2)⟩
          | ok yy S2 =>
          rw [qb] at p
          simp only [bind_ok] at p
          refine ⟨α1, ρ, S1, env.mono e1, st1, ?_⟩
          rw [qb]
          intro α2 H2 st2 e2 v2 rv2
          refine ⟨PXE X.K W, α2, S2, [xx, yy], .cons (rv.mono e2 _ _) (.cons rv2 .nil), st2, ?_⟩
          show Pst X.K _ α2 H2 (cmpD o xx yy S2) _
          cases qc : cmpD o xx yy S2 with
          | bad => rw [qc] at p; exact p.elim
          | ex cc ds S3 => rw [qc] at p; exact fun α3 H3 s3 e3 => p α3 H3 s3 ((e1.trans e2).trans e3)
          | ok zz S3 =>
          obtain ⟨bb, rfl⟩ := cmp_bl qc
          rw [qc] at p
          simp only [bind_ok] at p
          intro α3 H3 st3 e3 v3 rv3
          refine ⟨bb, of_bl rv3, ?_⟩
          have e03 := (e1.trans e2).trans e3
          cases bb with
          | false => exact hg _ α3 H3 S3 st3 (Pst.from (r := g (.bl false) S3) p e03) ⟨_, rfl⟩ _ rep_bl
          | true =>
            rw [if_pos rfl]
            cases qd : evE (T.cfg wf k) c ρ S3 with
            | bad => rw [qd] at p; exact p.elim
            | ex cc ds S4 => rw [qd] at p; exact ⟨α3, ρ, S3, env.mono e03, st3, by rw [qd]; exact fun α4 H4 s4 e4 => p α4 H4 s4 (e03.trans e4)⟩
            | ok ww S4 =>
            rw [qd] at p
            simp only [bind_ok] at p
            refine ⟨α3, ρ, S3, env.mono e03, st3, ?_⟩
            rw [qd]
            intro α4 H4 st4 e4 v4 rv4
            have e04 := e03.trans e4
            refine ⟨PXE X.K W, α4, S4, [yy, ww], .cons (rv2.mono (e3.trans e4) _ _) (.cons rv4 .nil), st4, ?_⟩
            show Pst X.K _ α4 H4 (cmpD o' yy ww S4) _
            cases qe : cmpD o' yy ww S4 with
            | bad => rw [qe] at p; exact p.elim
            | ex cc ds S5 => rw [qe] at p; exact fun α5 H5 s5 e5 => p α5 H5 s5 (e04.trans e5)
            | ok tt S5 =>
            obtain ⟨b5, rfl⟩ := cmp_bl qe
            rw [qe] at p
            simp only [bind_ok] at p
            intro α5 H5 st5 e5 v5 rv5
            exact hg _ α5 H5 S5 st5 (Pst.from (r := g (.bl b5) S5) p (e04.trans e5)) ⟨_, rfl⟩ _ rv5
        refine ⟨PE.imp (pe_chain (op_cmp hu o) (op_cmp hu o') (sound_E a X W l sc ok hs hN h1).1 (sound_E b X W m sc ok hs hN h2).1 (sound_E c X W r sc ok hs hN h3).1 hm) fun σ H Q q => ?_,
          PT.imp (pt_chain (op_cmp hu o) (op_cmp hu o') (sound_E a X W l sc ok hs hN h1).1 (sound_E b X W m sc ok hs hN h2).1 (sound_E c X W r sc ok hs hN h3).1 hm) fun σ H Q q => ?_⟩
        · obtain ⟨α, ρ, S, env, st, p⟩ := q
          refine key σ H Q (fun d S => .ok d S) (VF X.K Q) α ρ S (fun d α' H' S' st' p' _ v rv => p' α' H' st' .refl v rv) env st ?_
          cases qq : evE (T.cfg wf k) (.chain o o' a b c) ρ S with
          | ok d S' => rw [qq] at p; exact p
          | ex cc ds S' => rw [qq] at p; exact p
          | bad => rw [qq] at p; exact p
        · obtain ⟨α, ρ, S, env, st, p⟩ := q
          simp only [evT] at p
          refine key σ H _ (fun d S => truth d S) (fun b _ H' _ => Q b H') α ρ S (fun d α' H' S' st' p' hb v rv => ?_) env st p
          obtain ⟨b, rfl⟩ := hb
          exact ⟨b, of_bl rv, p' α' H' st' .refl⟩
      · cases h
    | _ => simp [chkE] at h
  | .and es, X, W, x, sc, ok, hs, hN, h => by
    cases x with
    | BoolOp op vs p =>
      simp only [chkE, Bool.and_eq_true, decide_eq_true_eq] at h
      obtain ⟨rfl, h1⟩ := h
      obtain ⟨_, _, g1, _, g2, _⟩ := sound_Es es X W vs sc ok hs hN h1
      refine ⟨PE.imp (g1 p) fun σ H Q q => ?_, PT.imp (g2 p).pt fun σ H Q q => ?_⟩
      · obtain ⟨α, ρ, S, env, st, p⟩ := q
        exact ⟨α, ρ, S, env, st, by simpa only [evE] using p⟩
      · obtain ⟨α, ρ, S, env, st, p⟩ := q
        exact ⟨α, ρ, S, env, st, by simpa only [evT] using p⟩
    | _ => simp [chkE] at h
  | .or es, X, W, x, sc, ok, hs, hN, h => by
    cases x with
    | BoolOp op vs p =>
      simp only [chkE, Bool.and_eq_true, decide_eq_true_eq] at h
      obtain ⟨rfl, h1⟩ := h
      obtain ⟨_, _, _, g1, _, g2⟩ := sound_Es es X W vs sc ok hs hN h1
      refine ⟨PE.imp (g1 p) fun σ H Q q => ?_, PT.imp (g2 p).pt fun σ H Q q => ?_⟩
      · obtain ⟨α, ρ, S, env, st, p⟩ := q
        exact ⟨α, ρ, S, env, st, by simpa only [evE] using p⟩
      · obtain ⟨α, ρ, S, env, st, p⟩ := q
        exact ⟨α, ρ, S, env, st, by simpa only [evT] using p⟩
    | _ => simp [chkE] at h
  | .not a, X, W, x, sc, ok, hs, hN, h => by
    cases x with
    | UnaryOp op l p =>
      simp only [chkE, Bool.and_eq_true, decide_eq_true_eq] at h
      obtain ⟨rfl, h1⟩ := h
      obtain ⟨g1, g2⟩ := sound_E a X W l sc ok hs hN h1
      refine ⟨PE.imp (pe_notT g1) fun σ H Q q => ?_, PT.imp (pt_not g2) fun σ H Q q => ?_⟩
      · obtain ⟨α, ρ, S, env, st, p⟩ := q
        simp only [evE] at p
        refine stepE env st p fun d α' H' S' v st' e' rv p' => ?_
        obtain ⟨b, _, hb, p2⟩ := truth_ok st' rv p'
        exact ⟨b, hb, ok_now st' p2 rep_bl⟩
      · obtain ⟨α, ρ, S, env, st, p⟩ := q
        simp only [evT] at p
        exact stepT env st p fun b α' H' S' st' e' p' => p' α' H' st' .refl
    | _ => simp [chkE] at h
  | .ite t a b, X, W, x, sc, ok, hs, hN, h => by
    cases x with
    | IfExp c l r p =>
      simp only [chkE, Bool.and_eq_true] at h
      obtain ⟨⟨h1, h2⟩, h3⟩ := h
      obtain ⟨_, gt⟩ := sound_E t X W c sc ok hs hN h1
      obtain ⟨ga, gA⟩ := sound_E a X W l sc ok hs hN h2
      obtain ⟨gb, gB⟩ := sound_E b X W r sc ok hs hN h3
      refine ⟨PE.imp (pe_ifExp gt ga gb) fun σ H Q q => ?_, ⟨fun pins s σ H Q I q => ?_⟩⟩
      · obtain ⟨α, ρ, S, env, st, p⟩ := q
        simp only [evE] at p
        refine stepT env st p fun bb α' H' S' st' e' p' => ?_
        cases bb with
        | true => exact ⟨α', ρ, S', env.mono e', st', p'⟩
        | false => exact ⟨α', ρ, S', env.mono e', st', p'⟩
      · obtain ⟨α, ρ, S, env, st, p⟩ := q
        simp only [evT] at p
        have q1 : tT (T.cfg wf k) X.K (PXE X.K W) t σ H (fun c H1 => if c = true then tT (T.cfg wf k) X.K (PXE X.K W) a σ H1 Q else tT (T.cfg wf k) X.K (PXE X.K W) b σ H1 Q) := by
          refine stepT env st p fun bb α' H' S' st' e' p' => ?_
          cases bb with
          | true => exact ⟨α', ρ, S', env.mono e', st', p'⟩
          | false => exact ⟨α', ρ, S', env.mono e', st', p'⟩
        refine isTrue_IfExp (thn (gt.run pins s σ H _ I q1) fun c s1 ⟨H2, I2, q2⟩ => ?_)
        cases c with
        | true => exact gA.run pins s1 σ H2 Q I2 q2
        | false => exact gB.run pins s1 σ H2 Q I2 q2
    | _ => simp [chkE] at h
  | .tup es, X, W, x, sc, ok, hs, hN, h => by
    cases x with
    | Tuple vs kk p =>
      simp only [chkE] at h
      have g : PE X (.Tuple vs kk p) (tE (T.cfg wf k) X.K (PXE X.K W) (.tup es)) := PE.imp (pe_tup (sound_Es es X W vs sc ok hs hN h).1) fun σ H Q q => by
        obtain ⟨α, ρ, S, env, st, p⟩ := q
        simp only [evE] at p
        refine stepEs env st p fun ds α' H' S' us st' e' rs p' => ?_
        split at p'
        · rename_i hz
          exact ⟨by rw [rs.length, ← lineN_eq]; exact hz, fun q hq => ok_tup st' p' rs hq⟩
        · exact p'.elim
      exact ⟨g, pt_tru g (fun _ => rfl) fun ρ S => by simp only [evT]⟩
    | _ => simp [chkE] at h
  | .lst es, X, W, x, sc, ok, hs, hN, h => by
    cases x with
    | List vs p =>
      simp only [chkE] at h
      have g : PE X (.List vs p) (tE (T.cfg wf k) X.K (PXE X.K W) (.lst es)) := PE.imp (pe_lst (sound_Es es X W vs sc ok hs hN h).1) fun σ H Q q => by
        obtain ⟨α, ρ, S, env, st, p⟩ := q
        simp only [evE] at p
        refine stepEs env st p fun ds α' H' S' us st' e' rs p' => ?_
        split at p'
        · rename_i hz
          exact ⟨by rw [rs.length, ← lineN_eq]; exact hz, fun q hq => ok_lst st' p' rs hq⟩
        · exact p'.elim
      exact ⟨g, pt_tru g (fun _ => rfl) fun ρ S => by simp only [evT]⟩
    | _ => simp [chkE] at h
  | .dict ks es, X, W, x, sc, ok, hs, hN, h => by
    cases x with
    | Dict keys vs p =>
      simp only [chkE, Bool.and_eq_true, decide_eq_true_eq, Bool.not_eq_true'] at h
      obtain ⟨⟨⟨⟨h1, h2⟩, h3⟩, h4⟩, h5⟩ := h
      obtain ⟨l1, l2⟩ := keysB_len ks keys h1
      have hk : ks.length = esLen es := by rw [← l1, h2, chkEs_len es vs h5]
      have g : PE X (.Dict keys vs p) (tE (T.cfg wf k) X.K (PXE X.K W) (.dict ks es)) := PE.imp (pe_disp ((sound_Es es X W vs sc ok hs hN h5).2.1 p ks keys h1 h2) l2 h2 (by rintro rfl; cases h3) h4) fun σ H Q q => by
        obtain ⟨α, ρ, S, env, st, p⟩ := q
        simp only [evE] at p
        intro a ha
        cases q : evEs (T.cfg wf k) es ρ S with
        | bad => rw [q] at p; exact p.elim
        | ex c ds S' =>
          rw [q] at p
          exact pairs_imp es ks hk (env.mono (.laid ha)) (st.laid ha) (by rw [q]; exact fun α' H' s' e' => p α' H' s' ((Ext.laid ha).trans e'))
        | ok ds S' =>
        rw [q] at p
        simp only [bind_ok] at p
        refine pairs_imp es ks hk (env.mono (.laid ha)) (st.laid ha) (by
          rw [q]
          intro α' H' st' e' us rs
          have na : a ∉ α := st.fresh ha
          have hD : H' a = some (.dK []) := e'.fr a _ upd_same na
          have nD : a ∉ α' := e'.notin na upd_same
          split at p
          · rename_i hz
            refine ⟨hD, (ks.zip us).map (fun p => ((.inr p.1 : L2.Key), p.2)), by rw [List.map_map]; rfl, ?_, ?_⟩
            · rw [List.length_map, List.length_zip]; omega
            · have e0 : Ext α H α' H' := (Ext.laid ha).trans e'
              have rr := merge_rep ks ds us ((rs.out hD rfl (u := .dK (mergeK [] ((ks.zip us).map fun p => ((.inr p.1 : L2.Key), p.2)))) (β := []) _ _)) .nil
              have st2 := (st'.out hD rfl nD (u := .dK (mergeK [] ((ks.zip us).map fun p => ((.inr p.1 : L2.Key), p.2))))).adopt upd_same rfl nD (o := .dK ((ks.zip ds).foldl (fun acc kv => putK acc (.inr kv.1) kv.2) [])) ⟨_, upd_same, merge_rep ks ds us (rs.out hD rfl _ _) .nil⟩
              exact p _ _ st2 ((e0.out ha).adopt ha) (.ref a) (rep_ref (at_end st'))
          · exact p.elim)
      exact ⟨g, pt_tru g (fun _ => rfl) fun ρ S => by simp only [evT]⟩
    | _ => simp [chkE] at h
  | .dict0 t, X, W, x, sc, ok, hs, hN, h => by
    cases x with
    | Dict ks vs p =>
      simp only [chkE] at h
      split at h
      · have g : PE X (.Dict [] [] p) (tE (T.cfg wf k) X.K (PXE X.K W) (.dict0 t)) := by
          cases t with
          | false =>
            refine PE.imp pe_dnewK fun σ H Q q => ?_
            obtain ⟨α, ρ, S, env, st, p⟩ := q
            simp only [evE] at p
            exact fun a ha => ok_dK st p .nil ha
          | true =>
            refine PE.imp pe_dnewT fun σ H Q q => ?_
            obtain ⟨α, ρ, S, env, st, p⟩ := q
            simp only [evE] at p
            exact fun a ha => ok_dT st p .nil ha
        exact ⟨g, pt_tru g (fun _ => rfl) fun ρ S => by simp only [evT]⟩
      · cases h
    | _ => simp [chkE] at h
  | .ix a i, X, W, x, sc, ok, hs, hN, h => by
    cases x with
    | Subscript l r p =>
      simp only [chkE, Bool.and_eq_true] at h
      have hu : X.A.units + 1 < cLine := by have := ok.room.un; omega
      have g : PE X (.Subscript l r p) (tE (T.cfg wf k) X.K (PXE X.K W) (.ix a i)) := PE.imp (pe_ix (ix_all hu) (sound_E a X W l sc ok hs hN h.1).1 (sound_E i X W r sc ok hs hN h.2).1 (plain_of h.2)) fun σ H Q q => by
        obtain ⟨α, ρ, S, env, st, p⟩ := q
        simp only [evE] at p
        exact step2 (fun _ _ _ _ z => z) env st p
      exact ⟨g, pt_tru g (fun _ => rfl) fun ρ S => by simp only [evT]⟩
    | _ => simp [chkE] at h
  | .sl a lo hi, X, W, x, sc, ok, hs, hN, h => by
    cases x with
    | Subscript l s p =>
      simp only [chkE] at h
      split at h
      · rename_i y z pp
        simp only [Bool.and_eq_true] at h
        obtain ⟨⟨h1, h2⟩, h3⟩ := h
        have g : PE X (.Subscript l (.Slice y z none pp) p) (tE (T.cfg wf k) X.K (PXE X.K W) (.sl a lo hi)) := PE.imp (pe_slice sl_all (sound_E a X W l sc ok hs hN h1).1 (sound_O lo X W y sc ok hs hN h2) (sound_O hi X W z sc ok hs hN h3)) fun σ H Q q => by
          obtain ⟨α, ρ, S, env, st, p⟩ := q
          simp only [evE] at p
          exact stepE env st p fun d α1 H1 S1 v st1 e1 rv p1 => ⟨α1, ρ, S1, env.mono e1, st1, p1.bind.imp fun l1 α2 H2 S2 st2 e2 p2 =>
            ⟨α2, ρ, S2, (env.mono e1).mono e2, st2, p2.bind.imp fun l2 α3 H3 S3 st3 e3 p3 => ⟨PXE X.K W, α3, S3, d, rv.mono (e2.trans e3) _ _, st3, p3⟩⟩⟩
        exact ⟨g, pt_tru g (fun _ => rfl) fun ρ S => by simp only [evT]⟩
      · cases h
    | _ => simp [chkE] at h
  | .rev a, X, W, x, sc, ok, hs, hN, h => by
    simp only [chkE] at h
    split at h
    · simp only [Bool.and_eq_true, decide_eq_true_eq] at h
      obtain ⟨⟨rfl, rfl⟩, h1⟩ := h
      refine both (PE.imp (pe_revA (sound_E a X W _ sc ok hs hN h1).1) fun σ H Q q => ?_) (fun _ => rfl) fun ρ S => by simp only [evT]
      · skip
        obtain ⟨α, ρ, S, env, st, p⟩ := q
        simp only [evE] at p
        refine stepE env st p fun d α' H' S' v st' e' rv p' => ?_
        unfold revD at p'
        split at p'
        · obtain ⟨b, vs, rfl, hb, rs⟩ := of_tup rv
          exact ⟨b, vs, rfl, .inr ⟨.of hb, fun q hq => ok_tup st' p' rs.reverse hq⟩⟩
        · obtain ⟨b, vs, rfl, hb, rs⟩ := of_fl rv
          exact ⟨b, vs, rfl, .inl ⟨hb.sq, fun q hq => ok_lst st' p' rs.reverse hq⟩⟩
        · obtain ⟨b, rfl, hb⟩ := of_ref rv
          split at p'
          · rename_i es
            obtain ⟨vs, h1, rs⟩ := st'.lst es hb
            exact ⟨b, vs, rfl, .inl ⟨.of h1, fun q hq => ok_lst st' p' rs.reverse hq⟩⟩
          · exact p'.elim
        · exact p'.elim
    · cases h
  | .call f es, X, W, x, sc, ok, hs, hN, h => by
    simp only [chkE] at h
    split at h
    · rename_i n np vs cp
      simp only [Bool.and_eq_true] at h
      obtain ⟨⟨⟨h1, h2⟩, h3⟩, h4⟩ := h
      obtain ⟨d1, d2, d3⟩ := plainNm_ok h2
      split at h4
      · rename_i fd efd
        rw [decide_eq_true_eq] at h4
        subst h4
        have hgl : Gl X fd.name := by show X.env.scope.names.lookup _ = _; rw [hs]; exact isGl_ok h1
        obtain ⟨fa, fdt, m1, m2, m3, m4⟩ := ok.fns f fd efd
        have sv := star_any (env := X.env) es vs h3
        have g : PE X (.Call (.Name fd.name np) vs [] cp) (tE (T.cfg wf k) X.K (PXE X.K W) (.call f es)) := by
          have fin : ∀ σ H Q, tE (T.cfg wf k) X.K (PXE X.K W) (.call f es) σ H Q → tCall (spF T wf X.K k f) [] W (tEs (T.cfg wf k) X.K (PXE X.K W) es) σ H Q := fun σ H Q q => by
            obtain ⟨α, ρ, S, env, st, p⟩ := q
            simp only [evE] at p
            exact stepEs env st p fun ds α' H' S' us st' e' rs p' => ⟨α', S', ds, by rw [List.append_nil]; exact rs, st', p'⟩
          cases vs with
          | nil =>
            have e0 : es = .nil := by cases es with
              | nil => rfl
              | cons _ _ => simp [chkEs] at h3
            subst e0
            refine PE.imp (pe_callG0 (p := np) (pos := cp) m4 ok.room ok.gd hgl m1 m2 m3 ok.ps d1) fun σ H Q q => ?_
            obtain ⟨α, S, ds, rs, st, p⟩ : ∃ α S, ∃ ds : List D, Reps X.K H α ds [] ∧ StR X.K H α S ∧ Pst X.K (PXE X.K W) α H (callF T.F (fun n => (T.gl[n]?).map (·.2)) wf k f ds S) (VF X.K Q) := by
              obtain ⟨α, ρ, S, env, st, p⟩ := q
              simp only [evE, evEs, bind_ok] at p
              exact ⟨α, S, [], .nil, st, p⟩
            exact ⟨α, S, ds, rs, st, p⟩
          | cons v vs =>
            have sv' : starEach vs X.env = vs.map fun x => (false, eval x X.env) := by
              cases es with
              | nil => simp [chkEs] at h3
              | cons e es =>
                simp only [chkEs, Bool.and_eq_true] at h3
                exact star_any es vs h3.2
            exact PE.imp (pe_callG (p := np) (pos := cp) m4 ok.room ok.gd hgl m1 m2 m3 ok.ps (sound_Es es X W (v :: vs) sc ok hs hN h3).1 d1 (by rw [sv, sv']; rfl) (back_any sv')) fin
        exact ⟨g, pt_tru g (fun _ => rfl) fun ρ S => by simp only [evT]⟩
      · cases h4
    · cases h
  | .blt b es, X, W, x, sc, ok, hs, hN, h => by
    simp only [chkE] at h
    split at h
    · rename_i n np vs cp
      simp only [Bool.and_eq_true, decide_eq_true_eq] at h
      obtain ⟨⟨⟨⟨rfl, h1⟩, h2⟩, h3⟩, h4⟩ := h
      cases vs with
      | nil => cases h3
      | cons v vs =>
        have hgl : Gl X b.nm := by show X.env.scope.names.lookup _ = _; rw [hs]; exact isGl_ok h1
        have sv := star_any (env := X.env) es (v :: vs) h4
        have sv' : starEach vs X.env = vs.map fun x => (false, eval x X.env) := by
          cases es with
          | nil => simp [chkEs] at h4
          | cons e es =>
            simp only [chkEs, Bool.and_eq_true] at h4
            exact star_any es vs h4.2
        have hu : X.A.units + 65 < cLine := by have := ok.room.un; omega
        have g : PE X (.Call (.Name b.nm np) (v :: vs) [] cp) (tE (T.cfg wf k) X.K (PXE X.K W) (.blt b es)) :=
          PE.imp (pe_bi (call_bi ok.calm ok.gd hu b) hgl (ok.free _ h2) (sound_Es es X W (v :: vs) sc ok hs hN h4).1 (by rw [sv, sv']; rfl) (back_any sv')) fun σ H Q q => by
            obtain ⟨α, ρ, S, env, st, p⟩ := q
            simp only [evE] at p
            exact stepEs env st p fun ds α' H' S' us st' e' rs p' => ⟨PXE X.K W, α', S', ds, rs, st', p'⟩
        exact ⟨g, pt_tru g (fun _ => rfl) fun ρ S => by simp only [evT]⟩
    · cases h
  | .met m o es, X, W, x, sc, ok, hs, hN, h => by
    simp only [chkE] at h
    split at h
    · rename_i l n ap vs cp
      simp only [Bool.and_eq_true, decide_eq_true_eq] at h
      obtain ⟨⟨⟨⟨⟨rfl, h1⟩, h2⟩, h3⟩, h4⟩, h5⟩ := h
      have key : ∀ (σ : L2.St) (H : Hp) (Q : VK), tE (T.cfg wf k) X.K (PXE X.K W) (.met m o es) σ H Q → tBM X.K "list" (rMt X.K m) (tE (T.cfg wf k) X.K (PXE X.K W) o) (tEs (T.cfg wf k) X.K (PXE X.K W) es) σ H Q := fun σ H Q q => by
        obtain ⟨α, ρ, S, env, st, p⟩ := q
        simp only [evE] at p
        refine stepE env st p fun d α' H' S' v st' e' rv p' => ?_
        split at p'
        · rename_i hl
          refine ⟨?_, stepEs (env.mono e') st' p' fun ds α2 H2 S2 us st2 e2 rs p2 => ⟨PXE X.K W, α2, S2, d, ds, rv.mono e2 _ _, rs, st2, p2⟩⟩
          unfold isLst at hl
          split at hl
          · split at hl
            · rename_i es
              obtain ⟨b, rfl, hb⟩ := of_ref rv
              obtain ⟨vs, h1, rs⟩ := st'.lst es hb
              exact .inl ⟨rfl, vs, .of h1⟩
            · cases hl
          · cases hl
        · exact p'.elim
      have go := sound_E o X W l sc ok hs hN h4
      have g : PE X (.Call (.Attribute l m.nm ap) vs [] cp) (tE (T.cfg wf k) X.K (PXE X.K W) (.met m o es)) := by
        cases vs with
        | nil =>
          have e0 : es = .nil := by cases es with
            | nil => rfl
            | cons _ _ => simp [chkEs] at h5
          subst e0
          refine PE.imp (pe_bm0 PySem.F.plainAttrs_list m.slot m.ty (mt_all m) go.1 (recv_ok h2) h1) fun σ H Q q => ?_
          obtain ⟨α, ρ, S, env, st, p⟩ := key σ H Q q
          refine ⟨α, ρ, S, env, st, p.imp fun d α' H' S' st' e' p' v rv => ?_⟩
          obtain ⟨t1, α2, ρ2, S2, env2, st2, p2⟩ := p' v rv
          simp only [evEs] at p2
          exact ⟨t1, p2 α2 H' st2 .refl [] .nil⟩
        | cons v vs =>
          have sv := star_any (env := X.env) es (v :: vs) h5
          have sv' : starEach vs X.env = vs.map fun x => (false, eval x X.env) := by
            cases es with
            | nil => simp [chkEs] at h5
            | cons e es =>
              simp only [chkEs, Bool.and_eq_true] at h5
              exact star_any es vs h5.2
          refine PE.imp (pe_bm PySem.F.plainAttrs_list m.slot m.ty (mt_all m) go.1 (sound_Es es X W (v :: vs) sc ok hs hN h5).1 (recv_ok h2) ?_ h1 (by rw [sv, sv']; rfl) (back_any sv')) key
          rw [back_all sv]
          simp only [List.length_cons] at h3 ⊢
          show (true && true && decide _) = true
          simp only [Bool.and_self, Bool.true_and, decide_eq_true_eq, List.length_nil, List.isEmpty_nil, if_true]
          omega
      exact ⟨g, pt_tru g (fun _ => rfl) fun ρ S => by simp only [evT]⟩
    · cases h
  | .lc own tg it c e, X, W, x, sc, ok, hs, hN, h => by
    simp only [chkE] at h
    split at h
    · rename_i elt t iter ifs a scope pp
      simp only [Bool.and_eq_true, decide_eq_true_eq] at h
      obtain ⟨⟨⟨⟨⟨⟨rfl, h1⟩, h2⟩, h3⟩, h4⟩, h5⟩, h6⟩ := h
      refine both (PE.imp (pe_lc (g := tG X.K tg) (tt := tC (T.cfg wf k) X.K (PXE X.K fun _ _ _ => False) c) (te := tE (T.cfg wf k) X.K (PXE X.K fun _ _ _ => False) e) ok.calm ok.nd (sound_I it X W t iter sc ok hs hN h4) (blkOk_by (by rw [hN, hs]; exact h1))
        (fun s H A cl fp => sound_G (X := X.blk s H scope (compEnvC scope cl A X.env) fp) (dfn := false) (by rw [← hs]; rfl) hN ok.nd ok.calm (fun z => by cases z) tg t h3)
        (fun s H A cl fp => sound_C c _ _ ifs _ (ok.blk hnx s H scope (compEnvC scope cl A X.env) fp) (by rw [← hs]; rfl) hN h5)
        (fun s H A cl fp => (sound_E e _ _ elt _ (ok.blk hnx s H scope (compEnvC scope cl A X.env) fp) (by rw [← hs]; rfl) hN h6).1) (fold_of h4)) fun σ H Q q => ?_) (fun _ => rfl) fun ρ S => by simp only [evT]
      rw [ownP_snd]
      exact lc_imp h2 q
    · cases h
theorem sound_Es : ∀ (es : Es) (X : Cx) (W : XK) (xs : List Expr) (sc : Scope), OkX T wf k CX W X → X.env.scope = sc → X.N = N → chkEs T N es sc xs = true →
    PA X xs (tEs (T.cfg wf k) X.K (PXE X.K W) es) ∧ (∀ p ks keys, keysB ks keys = true → keys.length = xs.length → PPs X p keys xs (trsOf (T.cfg wf k) X.K (PXE X.K W) ks es)) ∧ (∀ p, PE X (.BoolOp .And xs p) (tAn (T.cfg wf k) X.K (PXE X.K W) es)) ∧ (∀ p, PE X (.BoolOp .Or xs p) (tOn (T.cfg wf k) X.K (PXE X.K W) es)) ∧
      (∀ p, PW X (.BoolOp .And xs p) (tAT (T.cfg wf k) X.K (PXE X.K W) es)) ∧ (∀ p, PW X (.BoolOp .Or xs p) (tOT (T.cfg wf k) X.K (PXE X.K W) es))
  | .nil, X, W, xs, sc, ok, hs, hN, h => by
    cases xs with
    | nil =>
      refine ⟨PA.imp pa_nil fun σ H Q q => ?_, fun p ks keys hk hl => ?_, fun p => ⟨fun pins s σ H Q I q => ?_⟩, fun p => ⟨fun pins s σ H Q I q => ?_⟩, fun p => ⟨fun wh pins s σ H Q I q => ?_⟩, fun p => ⟨fun wh pins s σ H Q I q => ?_⟩⟩
      · obtain ⟨α, ρ, S, env, st, p⟩ := q
        simp only [evEs] at p
        exact p α H st .refl [] .nil
      · obtain ⟨l1, _⟩ := keysB_len ks keys hk
        have e1 : keys = [] := List.eq_nil_of_length_eq_zero hl
        subst e1
        have e2 : ks = [] := List.eq_nil_of_length_eq_zero l1.symm
        subst e2
        exact pps_nil
      all_goals
        obtain ⟨α, ρ, S, env, st, p⟩ := q
        first
          | (simp only [evA] at p; exact p.elim)
          | (simp only [evO] at p; exact p.elim)
          | (simp only [evAT] at p; exact p.elim)
          | (simp only [evOT] at p; exact p.elim)
    | cons _ _ => simp [chkEs] at h
  | .cons e es, X, W, xs, sc, ok, hs, hN, h => by
    cases xs with
    | nil => simp [chkEs] at h
    | cons x xs =>
      simp only [chkEs, Bool.and_eq_true] at h
      obtain ⟨g1, g2⟩ := sound_E e X W x sc ok hs hN h.1
      obtain ⟨r1, rp, r2, r3, r4, r5⟩ := sound_Es es X W xs sc ok hs hN h.2
      have args : PA X (x :: xs) (tEs (T.cfg wf k) X.K (PXE X.K W) (.cons e es)) := PA.imp (pa_cons g1 r1 (star_of h.1)) fun σ H Q q => by
        obtain ⟨α, ρ, S, env, st, p⟩ := q
        simp only [evEs] at p
        refine stepE env st p fun d α1 H1 S1 v st1 e1 rv p1 => stepEs (env.mono e1) st1 p1 fun ds α2 H2 S2 vs st2 e2 rs p2 => ?_
        exact p2 α2 H2 st2 .refl (v :: vs) (.cons (rv.mono e2 _ _) rs)
      have pps : ∀ p ks keys, keysB ks keys = true → keys.length = (x :: xs).length → PPs X p keys (x :: xs) (trsOf (T.cfg wf k) X.K (PXE X.K W) ks (.cons e es)) := fun p ks keys hk hl => by
        cases ks with
        | nil =>
          obtain ⟨l1, _⟩ := keysB_len [] keys hk
          rw [l1] at hl
          cases hl
        | cons k ks =>
          simp only [keysB] at hk
          split at hk
          · simp only [Bool.and_eq_true, decide_eq_true_eq] at hk
            obtain ⟨rfl, hk⟩ := hk
            exact pps_cons pe_str g1 (rp p ks _ hk (by simpa using hl))
          · cases hk
      refine ⟨args, pps, ?_⟩
      cases es with
      | nil =>
        have e0 : xs = [] := by
          cases xs with
          | nil => rfl
          | cons _ _ => simp [chkEs] at h
        subst e0
        refine ⟨fun p => PE.imp (pe_one g1) fun σ H Q q => ?_, fun p => PE.imp (pe_one g1) fun σ H Q q => ?_, fun p => PW.imp (pw_and1 g2) fun σ H Q q => ?_, fun p => PW.imp (pw_or1 g2) fun σ H Q q => ?_⟩
        · obtain ⟨α, ρ, S, env, st, p⟩ := q
          exact ⟨α, ρ, S, env, st, by simpa only [evA] using p⟩
        · obtain ⟨α, ρ, S, env, st, p⟩ := q
          exact ⟨α, ρ, S, env, st, by simpa only [evO] using p⟩
        · obtain ⟨α, ρ, S, env, st, p⟩ := q
          exact ⟨α, ρ, S, env, st, by simpa only [evAT] using p⟩
        · obtain ⟨α, ρ, S, env, st, p⟩ := q
          exact ⟨α, ρ, S, env, st, by simpa only [evOT] using p⟩
      | cons e' es =>
        cases xs with
        | nil => simp [chkEs] at h
        | cons x' xs =>
          refine ⟨fun p => PE.imp (pe_andT g1 (r2 p)) fun σ H Q q => ?_, fun p => PE.imp (pe_orT g1 (r3 p)) fun σ H Q q => ?_, fun p => PW.imp (pw_and g2 (r4 p)) fun σ H Q q => ?_, fun p => PW.imp (pw_or g2 (r5 p)) fun σ H Q q => ?_⟩
          · obtain ⟨α, ρ, S, env, st, p⟩ := q
            simp only [evA] at p
            refine stepE env st p fun d α1 H1 S1 v st1 e1 rv p1 => ?_
            obtain ⟨b, _, hb, p2⟩ := truth_ok st1 rv p1
            refine ⟨b, hb, ?_⟩
            cases b with
            | true => exact ⟨α1, ρ, S1, env.mono e1, st1, p2⟩
            | false => exact p2 α1 H1 st1 .refl v rv
          · obtain ⟨α, ρ, S, env, st, p⟩ := q
            simp only [evO] at p
            refine stepE env st p fun d α1 H1 S1 v st1 e1 rv p1 => ?_
            obtain ⟨b, _, hb, p2⟩ := truth_ok st1 rv p1
            refine ⟨b, hb, ?_⟩
            cases b with
            | false => exact ⟨α1, ρ, S1, env.mono e1, st1, p2⟩
            | true => exact p2 α1 H1 st1 .refl v rv
          · obtain ⟨α, ρ, S, env, st, p⟩ := q
            simp only [evAT] at p
            refine stepT env st p fun b α1 H1 S1 st1 e1 p1 => ?_
            cases b with
            | true => exact ⟨α1, ρ, S1, env.mono e1, st1, p1⟩
            | false => exact p1 α1 H1 st1 .refl
          · obtain ⟨α, ρ, S, env, st, p⟩ := q
            simp only [evOT] at p
            refine stepT env st p fun b α1 H1 S1 st1 e1 p1 => ?_
            cases b with
            | false => exact ⟨α1, ρ, S1, env.mono e1, st1, p1⟩
            | true => exact p1 α1 H1 st1 .refl
theorem sound_O : ∀ (o : Eo) (X : Cx) (W : XK) (x : Option Expr) (sc : Scope), OkX T wf k CX W X → X.env.scope = sc → X.N = N → chkO T N o sc x = true → PO X x (tP (T.cfg wf k) X.K (PXE X.K W) o)
  | .none, X, W, x, sc, ok, hs, hN, h => by
    cases x with
    | none =>
      refine PO.imp po_none fun σ H Q q => ?_
      obtain ⟨α, ρ, S, env, st, p⟩ := q
      simp only [evOp] at p
      exact p α H st .refl
    | some _ => simp [chkO] at h
  | .some e, X, W, x, sc, ok, hs, hN, h => by
    cases x with
    | none => simp [chkO] at h
    | some x =>
      simp only [chkO] at h
      refine PO.imp (po_some (sound_E e X W x sc ok hs hN h).1) fun σ H Q q => ?_
      obtain ⟨α, ρ, S, env, st, p⟩ := q
      simp only [evOp] at p
      refine stepE env st p fun d α1 H1 S1 v st1 e1 rv p1 => ?_
      split at p1
      · exact ⟨_, of_int rv, p1 α1 H1 st1 .refl⟩
      · exact p1.elim
theorem sound_C : ∀ (o : Eo) (X : Cx) (W : XK) (xs : List Expr) (sc : Scope), OkX T wf k CX W X → X.env.scope = sc → X.N = N → chkC T N o sc xs = true → PTs X xs (tC (T.cfg wf k) X.K (PXE X.K W) o)
  | .none, X, W, xs, sc, ok, hs, hN, h => by
    cases xs with
    | nil => exact sound_C0 rfl
    | cons _ _ => simp [chkC] at h
  | .some e, X, W, xs, sc, ok, hs, hN, h => by
    simp only [chkC] at h
    split at h
    · rename_i x
      refine PTs.imp (pts_one (sound_E e X W x sc ok hs hN h).2) fun σ H Q q => ?_
      obtain ⟨α, ρ, S, env, st, p⟩ := q
      exact ⟨α, ρ, S, env, st, by simpa only [evC] using p⟩
    · cases h
theorem sound_I : ∀ (it : It) (X : Cx) (W : XK) (tg x : Expr) (sc : Scope), OkX T wf k CX W X → X.env.scope = sc → X.N = N → chkI T N it sc tg x = true → PI X tg x (tI (T.cfg wf k) X.K (PXE X.K W) it)
  | .of e, X, W, tg, x, sc, ok, hs, hN, h => by
    simp only [chkI] at h
    refine PI.imp (pi_any (sound_E e X W x sc ok hs hN h).1) fun σ H R q => ?_
    obtain ⟨α, ρ, S, env, st, p⟩ := q
    simp only [evI] at p
    refine stepE env st p fun d α1 H1 S1 v st1 e1 rv p1 => ?_
    split at p1
    · obtain ⟨b, vs, rfl, hb, rs⟩ := of_tup rv
      exact ⟨b, rfl, .inr ⟨⟨vs, .of hb⟩, p1 α1 H1 st1 .refl _ (wk_tup hb rs)⟩⟩
    · obtain ⟨b, vs, rfl, hb, rs⟩ := of_fl rv
      exact ⟨b, rfl, .inl ⟨⟨vs, hb.sq⟩, p1 α1 H1 st1 .refl _ (wk_fl hb rs)⟩⟩
    · obtain ⟨b, rfl, hb⟩ := of_ref rv
      split at p1
      · rename_i es
        obtain ⟨vs, h1, rs⟩ := st1.lst es hb
        exact ⟨b, rfl, .inl ⟨⟨vs, .of h1⟩, p1 α1 H1 st1 .refl _ (wk_liv hb)⟩⟩
      · exact p1.elim
    · exact p1.elim
  | .rng1 a, X, W, tg, x, sc, ok, hs, hN, h => by
    simp only [chkI] at h
    split at h
    · split at h
      · rename_i l
        simp only [Bool.and_eq_true, decide_eq_true_eq] at h
        obtain ⟨⟨⟨rfl, h1⟩, h2⟩, h3⟩ := h
        have hgl : Gl X "range" := by show X.env.scope.names.lookup _ = _; rw [hs]; exact isGl_ok h1
        have sv : starEach [l] X.env = [(false, eval l X.env)] := star_of h3
        refine PI.imp (pi_range1 hgl (ok.free _ h2) (pa_cons (sound_E a X W l sc ok hs hN h3).1 pa_nil (star_of h3)) sv) fun σ H R q => ?_
        obtain ⟨α, ρ, S, env, st, p⟩ := q
        simp only [evI] at p
        refine stepE env st p fun d α1 H1 S1 v st1 e1 rv p1 => ?_
        split at p1
        · split at p1
          · rename_i j hz
            rw [of_int rv]
            exact ⟨j, rfl, by omega, by omega, p1 α1 H1 st1 .refl _ wk_rng⟩
          · exact p1.elim
        · exact p1.elim
      · cases h
    · cases h
  | .rng2 a b, X, W, tg, x, sc, ok, hs, hN, h => by
    simp only [chkI] at h
    split at h
    · split at h
      · rename_i l r
        simp only [Bool.and_eq_true, decide_eq_true_eq] at h
        obtain ⟨⟨⟨⟨rfl, h1⟩, h2⟩, h3⟩, h4⟩ := h
        have hgl : Gl X "range" := by show X.env.scope.names.lookup _ = _; rw [hs]; exact isGl_ok h1
        have sv2 : starEach [r] X.env = [(false, eval r X.env)] := star_of h4
        have sv : starEach [l, r] X.env = [(false, eval l X.env), (false, eval r X.env)] := by rw [star_of h3, sv2]
        refine PI.imp (pi_range2 hgl (ok.free _ h2) (pa_cons (sound_E a X W l sc ok hs hN h3).1 (pa_cons (sound_E b X W r sc ok hs hN h4).1 pa_nil (star_of h4)) (star_of h3)) sv sv2) fun σ H R q => ?_
        obtain ⟨α, ρ, S, env, st, p⟩ := q
        simp only [evI] at p
        refine stepE env st p fun d α1 H1 S1 v st1 e1 rv p1 => stepE (env.mono e1) st1 p1 fun d2 α2 H2 S2 v2 st2 e2 rv2 p2 => ?_
        split at p2
        · split at p2
          · rename_i i j hz
            rw [of_int rv, of_int rv2]
            exact ⟨i, j, rfl, by omega, p2 α2 H2 st2 .refl _ wk_rng⟩
          · exact p2.elim
        · exact p2.elim
      · cases h
    · cases h
  | .revd a, X, W, tg, x, sc, ok, hs, hN, h => by
    simp only [chkI] at h
    split at h
    · split at h
      · rename_i l
        simp only [Bool.and_eq_true, decide_eq_true_eq] at h
        obtain ⟨⟨⟨rfl, h1⟩, h2⟩, h3⟩ := h
        have hgl : Gl X "reversed" := by show X.env.scope.names.lookup _ = _; rw [hs]; exact isGl_ok h1
        refine PI.imp (RT.pi_revA hgl (ok.free _ h2) (sound_E a X W l sc ok hs hN h3).1 (star_of h3)) fun σ H R q => ?_
        obtain ⟨α, ρ, S, env, st, p⟩ := q
        simp only [evI] at p
        refine stepE env st p fun d α1 H1 S1 v st1 e1 rv p1 => ?_
        split at p1
        · obtain ⟨b, vs, rfl, hb, rs⟩ := of_tup rv
          exact ⟨b, vs, rfl, .inr ⟨.of hb, p1 α1 H1 st1 .refl _ (wk_tupR hb rs)⟩⟩
        · obtain ⟨b, rfl, hb⟩ := of_ref rv
          split at p1
          · rename_i es
            obtain ⟨vs, h1, rs⟩ := st1.lst es hb
            refine ⟨b, vs, rfl, .inl ⟨.of h1, ?_⟩⟩
            rw [rs.length]
            exact p1 α1 H1 st1 .refl _ (wk_livR hb)
          · exact p1.elim
        · exact p1.elim
      · cases h
    · cases h
  | .enum a, X, W, tg, x, sc, ok, hs, hN, h => by simp [chkI] at h
end
end
end G

/-! The engine, part 10: statements. -/
namespace G
open PySem PySem.Spec PyProof.Rows L2
/-! ### the check -/
def isComp : Expr → Bool
  | .ListComp _ _ _ _ => true
  | .SetComp _ _ _ _ => true
  | .DictComp _ _ _ _ _ => true
  | _ => false
def notLoc (sc : Scope) : Expr → Bool
  | .Name n _ => !decide (sc.names.lookup n = some .local)
  | _ => true
def noSwap (sc : Scope) (ts vs : List Expr) : Bool := !(ts.length == 2 || ts.length == 3) || vs.all (foldedForSure 8) || ts.any (notLoc sc)
def swap2 (sc : Scope) (x y : Str) (px py : Pos) (vs : List Expr) : Bool :=
  decide (sc.names.lookup x = some .local) && decide (sc.names.lookup y = some .local) && (py.line == px.line) && !(x == y) && !(vs.all (foldedForSure 8)) && !(vs.all (constantsAlone 8))
def swap3 (sc : Scope) (x y z : Str) (px py pz : Pos) (vs : List Expr) : Bool :=
  decide (sc.names.lookup x = some .local) && decide (sc.names.lookup y = some .local) && decide (sc.names.lookup z = some .local) && (py.line == px.line) && (pz.line == px.line) && !(x == y) && !(x == z) && !(y == z) && !(vs.all (foldedForSure 8)) && !(vs.all (constantsAlone 8))
section
variable (T : Tab) (N : List Str)
mutual
def chkS : S → Scope → Stmt → Bool
  | .asg t e, sc, st => match st with
    | .Assign [tg] v pos => chkG N t sc true tg && chkE T N e sc v && (match v with
      | .ListComp _ _ scope lp => (match tg with
        | .Name y py => decide (sc.names.lookup y = some .local) && (py.line == lp.line) && !(scope.names.any fun (n, k) => n == y && (k == .local || k == .cell))
        | _ => false)
      | .SetComp _ _ _ _ => false
      | .DictComp _ _ _ _ _ => false
      | .Tuple vs _ _ => (match tg with
        | .Tuple ts _ _ => noSwap sc ts vs
        | .Name _ _ => true
        | _ => false)
      | _ => true)
    | _ => false
  | .par is es, sc, st => match st with
    | .Assign [.Tuple ts _ _] (.Tuple vs _ _) pos => chkEs T N es sc vs && (match is, ts, vs with
      | [i, j], [.Name x px, .Name y py], [_, _] => decide (N[i]? = some x) && decide (N[j]? = some y) && decide (i ≠ j) && swap2 sc x y px py vs
      | [i, j, l], [.Name x px, .Name y py, .Name z pz], [_, _, _] => decide (N[i]? = some x) && decide (N[j]? = some y) && decide (N[l]? = some z) && decide (i ≠ j) && decide (i ≠ l) && decide (j ≠ l) && swap3 sc x y z px py pz vs
      | _, _, _ => false)
    | _ => false
  | .aug i o e, sc, st => match st with
    | .AugAssign (.Name x _) op v _ => decide (N[i]? = some x) && isLoc sc true x && decide (op = o.op) && chkE T N e sc v
    | _ => false
  | .augP _ _ _ _, _, _ => false
  | .never, _, _ => true
  | .put o i e, sc, st => match st with
    | .Assign [.Subscript l r _] v _ => chkE T N o sc l && chkE T N i sc r && chkE T N e sc v && !isComp v
    | _ => false
  | .ex e, sc, st => match st with
    | .Expr v _ => chkE T N e sc v && !isComp v
    | _ => false
  | .ret e, sc, st => match st with
    | .Return (some v) _ => chkE T N e sc v
    | _ => false
  | .retN, _, st => match st with
    | .Return none _ => true
    | _ => false
  | .ite t a b, sc, st => match st with
    | .If c x y _ => chkE T N t sc c && chkSs a sc x && chkSs b sc y
    | _ => false
  | .whl t b, sc, st => match st with
    | .While c x [] _ => chkE T N t sc c && chkSs b sc x
    | _ => false
  | .for_ t it b, sc, st => match st with
    | .For tg iter x [] _ => chkG N t sc true tg && chkI T N it sc tg iter && chkSs b sc x
    | _ => false
  | .pass, _, st => match st with
    | .Pass _ => true
    | .Expr (.Constant (.str _) _ _) _ => true
    | _ => false
  | .brk, _, st => match st with
    | .Break _ => true
    | _ => false
  | .cont, _, st => match st with
    | .Continue _ => true
    | _ => false
def chkSs : Ss → Scope → List Stmt → Bool
  | .nil, _, st => match st with
    | [] => true
    | _ => false
  | .cons s ss, sc, st => match st with
    | x :: xs => chkS s sc x && chkSs ss sc xs
    | [] => false
end
end
/-! ### what is wanted behind -/
section
variable {K : PySem.W.Frag} {PX : PXT} {α α1 : List Addr} {H H1 : Hp} {C : Cfg}
def PstS (K : PySem.W.Frag) (PX : PXT) (α : List Addr) (H : Hp) (r : RS) (D : Ends) : Prop := match r with
  | .ok .nx ρ S => ∀ α' H' σ', EnvR K H' α' σ' ρ → StR K H' α' S → Ext α H α' H' → D.nx σ' H'
  | .ok .brk ρ S => ∀ α' H' σ', EnvR K H' α' σ' ρ → StR K H' α' S → Ext α H α' H' → D.bk σ' H'
  | .ok .cont ρ S => ∀ α' H' σ', EnvR K H' α' σ' ρ → StR K H' α' S → Ext α H α' H' → D.ct σ' H'
  | .ok (.ret d) _ S => ∀ α' H' v, StR K H' α' S → Ext α H α' H' → Rep K H' α' d v → D.rt v H'
  | .ex c ds _ S => ∀ α' H', StR K H' α' S → Ext α H α' H' → PX c ds α' H'
  | .bad => False
theorem PstS.from {r : RS} {D : Ends} (h : PstS K PX α H r D) (e : Ext α H α1 H1) : PstS K PX α1 H1 r D := by
  cases r with
  | ok f ρ S =>
    cases f with
    | nx => exact fun α' H' σ' a b c => h α' H' σ' a b (e.trans c)
    | brk => exact fun α' H' σ' a b c => h α' H' σ' a b (e.trans c)
    | cont => exact fun α' H' σ' a b c => h α' H' σ' a b (e.trans c)
    | ret d => exact fun α' H' v a b c => h α' H' v a (e.trans b) c
  | ex c ds ρ S => exact fun α' H' a b => h α' H' a (e.trans b)
  | bad => exact h
theorem PstS.st {β : Type} {r : R β} {ρ : Env} {f : β → Sto → RS} {D : Ends} (h : PstS K PX α H (r.st ρ f) D) : Pst K PX α H r fun b α' H' S' => PstS K PX α' H' (f b S') D := by
  cases r with
  | ok b S' => exact fun α' H' s e => PstS.from (r := f b S') h e
  | ex c ds S' => exact h
  | bad => exact h
def tS (C : Cfg) (K : PySem.W.Frag) (PX : PXT) (s : S) : TS := fun D σ H => ∃ α ρ S, EnvR K H α σ ρ ∧ StR K H α S ∧ PstS K PX α H (exS C s ρ S) D
def tSs (C : Cfg) (K : PySem.W.Frag) (PX : PXT) (s : Ss) : TS := fun D σ H => ∃ α ρ S, EnvR K H α σ ρ ∧ StR K H α S ∧ PstS K PX α H (exSs C s ρ S) D
theorem PS.imp {X : Cx} {s : Stmt} {t t' : TS} (h : PS X s t') (i : ∀ D σ H, t D σ H → t' D σ H) : PS X s t := ⟨fun pins s σ H D I q => h.run pins s σ H D I (i D σ H q)⟩
theorem PSs.imp {X : Cx} {s : List Stmt} {t t' : TS} (h : PSs X s t') (i : ∀ D σ H, t D σ H → t' D σ H) : PSs X s t := ⟨fun pins s σ H D I q => h.run pins s σ H D I (i D σ H q)⟩
theorem PstS.next {r : RS} {f : Env → Sto → RS} {D : Ends} (h : PstS K PX α H (r.next f) D) :
    PstS K PX α H r { D with nx := fun σ' H' => ∃ α' ρ' S', EnvR K H' α' σ' ρ' ∧ StR K H' α' S' ∧ PstS K PX α' H' (f ρ' S') D } := by
  cases r with
  | ok g ρ S =>
    cases g with
    | nx => exact fun α' H' σ' a b c => ⟨α', ρ, S, a, b, PstS.from (r := f ρ S) h c⟩
    | brk => exact h
    | cont => exact h
    | ret d => exact h
  | ex c ds ρ S => exact h
  | bad => exact h
/-- a loop's turn, by what is wanted of the next one -/
theorem PstS.turn {r : RS} {f : Env → Sto → RS} {D : Ends} (h : PstS K PX α H (r.turn f) D) {P : L2.St → Hp → Prop}
    (hP : ∀ α' ρ' S' σ' H', EnvR K H' α' σ' ρ' → StR K H' α' S' → Ext α H α' H' → PstS K PX α' H' (f ρ' S') D → P σ' H') :
    PstS K PX α H r { D with nx := P, ct := P, bk := D.nx } := by
  cases r with
  | ok g ρ S =>
    cases g with
    | nx => exact fun α' H' σ' a b c => hP α' ρ S σ' H' a b c (PstS.from (r := f ρ S) h c)
    | cont => exact fun α' H' σ' a b c => hP α' ρ S σ' H' a b c (PstS.from (r := f ρ S) h c)
    | brk => exact h
    | ret d => exact h
  | ex c ds ρ S => exact h
  | bad => exact h
variable {ρ : Env} {σ : L2.St} {S : Sto} {D : Ends}
theorem stS {e : E} {f : G.D → Sto → RS} {Q : VK} (env : EnvR K H α σ ρ) (st : StR K H α S) (p : PstS K PX α H ((evE C e ρ S).st ρ f) D)
    (k : ∀ d α' H' S' v, StR K H' α' S' → Ext α H α' H' → Rep K H' α' d v → PstS K PX α' H' (f d S') D → Q v H') : tE C K PX e σ H Q :=
  ⟨α, ρ, S, env, st, p.st.imp fun d α' H' S' st' e' p' v rv => k d α' H' S' v st' e' rv p'⟩
theorem stT {e : E} {f : Bool → Sto → RS} {Q : Bool → Hp → Prop} (env : EnvR K H α σ ρ) (st : StR K H α S) (p : PstS K PX α H ((evT C e ρ S).st ρ f) D)
    (k : ∀ d α' H' S', StR K H' α' S' → Ext α H α' H' → PstS K PX α' H' (f d S') D → Q d H') : tT C K PX e σ H Q :=
  ⟨α, ρ, S, env, st, p.st.imp fun d α' H' S' st' e' p' => k d α' H' S' st' e' p'⟩
theorem stEs {e : Es} {f : List G.D → Sto → RS} {Q : List V → Hp → Prop} (env : EnvR K H α σ ρ) (st : StR K H α S) (p : PstS K PX α H ((evEs C e ρ S).st ρ f) D)
    (k : ∀ d α' H' S' v, StR K H' α' S' → Ext α H α' H' → Reps K H' α' d v → PstS K PX α' H' (f d S') D → Q v H') : tEs C K PX e σ H Q :=
  ⟨α, ρ, S, env, st, p.st.imp fun d α' H' S' st' e' p' v rv => k d α' H' S' v st' e' rv p'⟩
end
/-! ### x op= y -/
abbrev rAug (K : PySem.W.Frag) (o : Bo) : R2 := fun x y H Q => rVal K (l2 (augD o)) [x, y] H Q
theorem iop_all {X : Cx} (o : Bo) : OpR X (inplaceOp o.op) (rAug X.K o) := by
  intro pins s σ H x y v u Q I rx ry h
  obtain ⟨PX, α, S, a, b, ra, rb, st, p⟩ := h.two
  unfold augD at p
  split at p
  · rw [of_int ra] at rx
    rw [of_int rb] at ry
    exact iop_add pins s σ H _ _ v u Q I rx ry ⟨_, _, rfl, rfl, ok_now st p rep_int⟩
  · rw [of_str ra] at rx
    rw [of_str rb] at ry
    split at p
    · rename_i hz
      exact iop_add_str pins s σ H _ _ v u Q I rx ry ⟨_, _, rfl, rfl, by rw [← lineN_eq]; exact hz, ok_now st p rep_str⟩
    · exact p.elim
  · rename_i n m
    obtain ⟨b1, rfl, h1⟩ := of_ref ra
    obtain ⟨b2, rfl, h2⟩ := of_ref rb
    split at p
    · rename_i xs ys e1 e2
      split at p
      · rename_i hz
        obtain ⟨vs, g1, r1⟩ := st.lst e1 h1
        obtain ⟨ws, g2, r2⟩ := st.lst e2 h2
        exact iop_ext pins s σ H _ _ v u Q I rx ry ⟨b1, b2, vs, ws, rfl, rfl, g1, g2, by rw [r1.length, r2.length, ← lineN_eq]; exact hz, ok_write st h1 g1 p (rep_ref h1) (r1.append r2)⟩
      · exact p.elim
    · exact p.elim
  · rw [of_int ra] at rx
    rw [of_int rb] at ry
    exact iop_sub pins s σ H _ _ v u Q I rx ry ⟨_, _, rfl, rfl, ok_now st p rep_int⟩
  · rw [of_int ra] at rx
    rw [of_int rb] at ry
    split at p
    · rename_i i j hz
      obtain ⟨t, rfl⟩ := rx
      obtain ⟨t', rfl⟩ := ry
      exact imul_int ⟨.int _, H, I.tok _, ⟨_, rfl⟩, ok_now st p rep_int⟩ (.of_le (Nat.le_refl _) (Nat.le_refl _) (of_decide_eq_true hz))
    · exact p.elim
  · rw [of_int ra] at rx
    rw [of_int rb] at ry
    split at p
    · rename_i i j hz
      refine iop_fdiv pins s σ H _ _ v u Q I rx ry ⟨_, _, rfl, rfl, ⟨hz.1, by omega⟩, ?_⟩
      rw [Int.fdiv_eq_ediv_of_nonneg i (by omega)] at p
      exact ok_now st p rep_int
    · exact p.elim
  · rw [of_int ra] at rx
    rw [of_int rb] at ry
    split at p
    · rename_i i j hz
      refine iop_mod pins s σ H _ _ v u Q I rx ry ⟨_, _, rfl, rfl, hz, ?_⟩
      rw [Int.fmod_eq_emod_of_nonneg i (by omega)] at p
      exact ok_now st p rep_int
    · exact p.elim
  · exact p.elim
/-! ### what the text tells of the stores -/
section
variable {sc : Scope} {env : PySem.Env}
theorem swaps_false {v : Expr} {t : Option Expr} {l : Nat} (h : isComp v = false) : swapsWith v t l env = pure false := by
  cases v <;> first
    | rfl
    | cases h
theorem fm_len {α β : Type} {f : α → Option β} : ∀ (l : List α), (l.filterMap f).length ≤ l.length ∧ ((∃ x ∈ l, f x = none) → (l.filterMap f).length < l.length)
  | [] => ⟨Nat.le_refl _, fun ⟨_, h, _⟩ => nomatch h⟩
  | x :: l => by
    obtain ⟨h1, h2⟩ := fm_len (f := f) l
    rw [List.filterMap_cons]
    cases q : f x with
    | none => exact ⟨by simp only [List.length_cons]; omega, fun _ => by simp only [List.length_cons]; omega⟩
    | some y =>
      refine ⟨by simp only [List.length_cons]; omega, fun ⟨z, hz, e⟩ => ?_⟩
      rcases List.mem_cons.mp hz with r | r
      · subst r; rw [q] at e; cases e
      · have := h2 ⟨z, r, e⟩
        simp only [List.length_cons]
        omega
theorem noSwap_ok {ts vs : List Expr} {k k2 : Nat} {p p2 : Pos} (hs : env.scope = sc) (h : noSwap sc ts vs = true) : swappedStores [.Tuple ts k p] (.Tuple vs k2 p2) env = pure none := by
  unfold noSwap at h
  unfold swappedStores
  simp only [pure_bind]
  rw [Bool.or_eq_true, Bool.or_eq_true] at h
  split
  · rfl
  · rename_i h1
    split
    · rfl
    · split
      · rfl
      · rename_i h3
        rcases h with (h | h) | h
        · rw [h] at h1
          exact absurd rfl h1
        · rw [if_pos h]
        · exfalso
          apply h3
          obtain ⟨x, hx, hn⟩ := List.any_eq_true.mp h
          rw [Bool.or_eq_true]
          left
          rw [bne_iff_ne]
          refine Nat.ne_of_lt ((fm_len ts).2 ⟨x, hx, ?_⟩)
          unfold notLoc at hn
          split at hn
          · rename_i n pp
            have e : env.kindOf n ≠ some .local := by
              show env.scope.names.lookup n ≠ _
              rw [hs]
              simpa using hn
            have e2 : (env.kindOf n == some NameKind.local) = false := beq_eq_false_iff_ne.mpr e
            simp only [e2, Bool.false_and, Bool.false_eq_true, if_false]
          · rename_i hne
            split
            · exact absurd rfl (hne _ _)
            · rfl
theorem any_star {f : Expr → Bool} (hf : ∀ x, f x = true → ∃ e p, x = .Starred e p) : ∀ {es : List Expr}, (∀ x ∈ es, ∀ e p, x ≠ .Starred e p) → ¬ es.any f = true
  | [], _ => by simp
  | x :: es, h => by
    rw [List.any_cons, Bool.or_eq_true]
    rintro (z | z)
    · obtain ⟨e, p, rfl⟩ := hf x z
      exact h _ List.mem_cons_self e p rfl
    · exact any_star hf (fun y hy => h y (List.mem_cons_of_mem _ hy)) z
theorem swap2_ok {x y : Str} {px py p p2 : Pos} {a b : Expr} {k k2 : Nat} (hs : env.scope = sc) (hk : env.scope.kind = .function) (na : ∀ z ∈ [a, b], ∀ e p, z ≠ .Starred e p)
    (h : swap2 sc x y px py [a, b] = true) : swappedStores [.Tuple [.Name x px, .Name y py] k p] (.Tuple [a, b] k2 p2) env = pure (some [x, y]) := by
  unfold swap2 at h
  simp only [Bool.and_eq_true, decide_eq_true_eq, Bool.not_eq_true'] at h
  obtain ⟨⟨⟨⟨⟨h1, h2⟩, h3⟩, h4⟩, h5⟩, h6⟩ := h
  have kx : env.kindOf x = some .local := by show env.scope.names.lookup x = _; rw [hs]; exact h1
  have ky : env.kindOf y = some .local := by show env.scope.names.lookup y = _; rw [hs]; exact h2
  have hb : env.blockKind = .function := by unfold Env.blockKind; rw [hk]; rfl
  unfold swappedStores
  simp only [pure_bind, List.length_cons, List.length_nil, hb]
  rw [if_neg (by decide)]
  refine (if_neg (any_star (fun z hz => ?_) na)).trans ?_
  · split at hz
    · exact ⟨_, _, rfl⟩
    · cases hz
  simp only [List.head?_cons, Option.map_some, Option.getD_some, List.filterMap_cons, kx, ky, Expr.pos, h3, beq_self_eq_true, Bool.and_self, if_true, List.filterMap_nil, List.length_cons, List.length_nil]
  have hyx : (y == x) = false := by
    rw [beq_eq_false_iff_ne] at h4 ⊢
    exact Ne.symm h4
  have he : ([x, y] : List Str).eraseDups.length = 2 := by
    simp [List.eraseDups_cons, h4, hyx]
  rw [he, if_neg (by decide), h5, if_neg (by decide), h6, if_neg (by decide)]
theorem swap3_ok {x y z : Str} {px py pz p p2 : Pos} {a b c : Expr} {k k2 : Nat} (hs : env.scope = sc) (hk : env.scope.kind = .function) (na : ∀ z ∈ [a, b, c], ∀ e p, z ≠ .Starred e p)
    (h : swap3 sc x y z px py pz [a, b, c] = true) : swappedStores [.Tuple [.Name x px, .Name y py, .Name z pz] k p] (.Tuple [a, b, c] k2 p2) env = pure (some [x, y, z]) := by
  unfold swap3 at h
  simp only [Bool.and_eq_true, decide_eq_true_eq, Bool.not_eq_true'] at h
  obtain ⟨⟨⟨⟨⟨⟨⟨⟨⟨h1, h2⟩, h3⟩, h4⟩, h5⟩, h6⟩, h7⟩, h8⟩, h9⟩, h10⟩ := h
  have kx : env.kindOf x = some .local := by show env.scope.names.lookup x = _; rw [hs]; exact h1
  have ky : env.kindOf y = some .local := by show env.scope.names.lookup y = _; rw [hs]; exact h2
  have kz : env.kindOf z = some .local := by show env.scope.names.lookup z = _; rw [hs]; exact h3
  have hb : env.blockKind = .function := by unfold Env.blockKind; rw [hk]; rfl
  unfold swappedStores
  simp only [pure_bind, List.length_cons, List.length_nil, hb]
  rw [if_neg (by decide)]
  refine (if_neg (any_star (fun z hz => ?_) na)).trans ?_
  · split at hz
    · exact ⟨_, _, rfl⟩
    · cases hz
  simp only [List.head?_cons, Option.map_some, Option.getD_some, List.filterMap_cons, kx, ky, kz, Expr.pos, h4, h5, beq_self_eq_true, Bool.and_self, if_true, List.filterMap_nil, List.length_cons, List.length_nil]
  have sw : ∀ {u v : Str}, (u == v) = false → (v == u) = false := fun h => by
    rw [beq_eq_false_iff_ne] at h ⊢
    exact Ne.symm h
  have he : ([x, y, z] : List Str).eraseDups.length = 3 := by
    simp [List.eraseDups_cons, h6, h7, h8, sw h6, sw h7, sw h8]
  rw [he, if_neg (by decide), h9, if_neg (by decide), h10, if_neg (by decide)]
end
end G

/-! The engine, part 11: statements are sound. -/
namespace G
open PySem PySem.Spec PyProof.Rows L2
theorem not_star {T : Tab} {N : List Str} {sc : Scope} : ∀ (es : Es) (xs : List Expr), chkEs T N es sc xs = true → ∀ z ∈ xs, ∀ e p, z ≠ .Starred e p
  | .nil, xs, h => by
    cases xs with
    | nil => intro z hz; cases hz
    | cons _ _ => simp [chkEs] at h
  | .cons e es, xs, h => by
    cases xs with
    | nil => simp [chkEs] at h
    | cons x xs =>
      simp only [chkEs, Bool.and_eq_true] at h
      intro z hz e2 p ez
      rcases List.mem_cons.mp hz with q | q
      · subst q
        subst ez
        rw [no_star] at h
        cases h.1
      · exact not_star es xs h.2 z q e2 p ez
theorem sub_asg {T : Tab} {N : List Str} {sc : Scope} {e : E} {o r : Expr} {pos : Pos} {env : PySem.Env} (h : chkE T N e sc r = true) (v : Value) : assign (.Subscript o r pos) env v = (do
      let ov ← holding [v] (eval o env)
      let iv ← holding [v, ov] (eval r env)
      standAt pos
      holding [v, ov, iv] (setItem ov iv v)
      release [v, ov, iv] []) := by
  cases r <;> first
    | (rw [no_slice] at h; cases h)
    | rfl
theorem swap_sub {o r v : Expr} {pos : Pos} {env : PySem.Env} : swappedStores [.Subscript o r pos] v env = pure none := by
  cases v <;> rfl
theorem swap_name {n : Str} {v : Expr} {pos : Pos} {env : PySem.Env} : swappedStores [.Name n pos] v env = pure none := by
  cases v <;> rfl
section
variable {T : Tab} {N : List Str} {wf k : Nat} {CX : CXT}
variable (hnx : ∀ outer H s e s', CX outer H s (fun _ _ _ => False) e s' → False) {X : Cx} {W : XK} {sc : Scope} (ok : OkX T wf k CX W X) (hs : X.env.scope = sc) (hN : X.N = N) (hf : ∀ x, X.fn x = true) (hk : X.env.scope.kind = .function) (hp : PassesOwn (model X.prog X.w) X.A X.env X.xe)
include hnx ok hs hN hf hk hp
/-- target = value, no comprehension -/
theorem sound_asg {t : Tg} {e : E} {tg v : Expr} {pos : Pos} (h1 : chkG N t sc true tg = true) (h2 : chkE T N e sc v = true) (hc : isComp v = false) (hw : swappedStores [tg] v X.env = pure none) : PS X (.Assign [tg] v pos) (tS (T.cfg wf k) X.K (PXE X.K W) (.asg t e)) := by
  refine PS.imp (ps_asg (sound_E hnx e X W v sc ok hs hN h2).1 (sound_G hs hN ok.nd ok.calm (fun _ => hf) t tg h1) (by show swapsWith v (some tg) pos.line X.env = pure false; exact swaps_false hc) hw (by rw [asg_of h1]; rfl)) fun D σ H q => ?_
  obtain ⟨α, ρ, S, env, st, p⟩ := q
  simp only [exS] at p
  refine stS env st p fun d α' H' S' v st' e' rv p' => ?_
  cases qa : asgT t d ρ with
  | none => simp only [qa] at p'; exact p'.elim
  | some ρ' =>
    simp only [qa] at p'
    exact ⟨α', ρ, d, ρ', env.mono e', rv, qa, fun σ' env' l s => p' α' H' σ' env' st' .refl⟩
mutual
theorem sound_S : ∀ (s : S) (x : Stmt), chkS T N s sc x = true → PS X x (tS (T.cfg wf k) X.K (PXE X.K W) s)
  | .asg t e, x, h => by
    simp only [chkS] at h
    split at h
    · rename_i tg v pos
      simp only [Bool.and_eq_true] at h
      obtain ⟨⟨h1, h2⟩, h3⟩ := h
      split at h3
      · -- a comprehension
        rename_i elt gens scope lp
        split at h3
        · rename_i y py
          simp only [Bool.and_eq_true, decide_eq_true_eq, Bool.not_eq_true'] at h3
          obtain ⟨⟨g1, g2⟩, g3⟩ := h3
          cases t with
          | t ts => simp [chkG] at h1
          | n i =>
          simp only [chkG, Bool.and_eq_true, decide_eq_true_eq] at h1
          cases e with
          | lc own tg it c e' =>
            simp only [chkE] at h2
            split at h2
            · rename_i elt2 t iter ifs a scope2 pp heq
              cases heq
              simp only [Bool.and_eq_true, decide_eq_true_eq] at h2
              obtain ⟨⟨⟨⟨⟨⟨rfl, k1⟩, k2⟩, k3⟩, k4⟩, k5⟩, k6⟩ := h2
              refine PS.imp (ps_setLc (i := i) (g := tG X.K tg) (tt := tC (T.cfg wf k) X.K (PXE X.K fun _ _ _ => False) c) (te := tE (T.cfg wf k) X.K (PXE X.K fun _ _ _ => False) e') ok.calm ok.nd (by rw [hN]; exact h1.1) (by rw [hs]; exact g1)
                (sw_true hk (by rw [hs]; exact g1) g2 g3) (sound_I hnx it X W t iter sc ok hs hN k4) (blkOk_by (by rw [hN, hs]; exact k1))
                (fun s H A cl fp => sound_G (X := X.blk s H scope (compEnvC scope cl A X.env) fp) (dfn := false) (by rw [← hs]; rfl) hN ok.nd ok.calm (fun z => by cases z) tg t k3)
                (fun s H A cl fp => sound_C hnx c _ _ ifs _ (ok.blk hnx s H scope (compEnvC scope cl A X.env) fp) (by rw [← hs]; rfl) hN k5)
                (fun s H A cl fp => (sound_E hnx e' _ _ elt _ (ok.blk hnx s H scope (compEnvC scope cl A X.env) fp) (by rw [← hs]; rfl) hN k6).1) (fold_of k4)) fun D σ H q => ?_
              rw [ownP_snd]
              obtain ⟨α, ρ, S, env, st, p⟩ := q
              simp only [exS] at p
              refine lc_imp k2 (stS env st p fun d α' H' S' v st' e' rv p' => ?_)
              simp only [asgT] at p'
              exact p' α' H' _ ((env.mono e').set rv) st' .refl
            · cases h2
          | _ => simp [chkE] at h2
        · cases h3
      · cases h3
      · cases h3
      · rename_i vs kk pp
        split at h3
        · exact sound_asg hnx ok hs hN hf hk hp h1 h2 rfl (noSwap_ok hs h3)
        · exact sound_asg hnx ok hs hN hf hk hp h1 h2 rfl swap_name
        · cases h3
      · rename_i n1 n2 n3 n4
        have hc : isComp v = false := by
          cases v <;> first
            | rfl
            | (exfalso; first | exact n1 _ _ _ _ rfl | exact n2 _ _ _ _ rfl | exact n3 _ _ _ _ _ rfl)
        refine sound_asg hnx ok hs hN hf hk hp h1 h2 hc ?_
        cases tg with
        | Name n p => exact swap_name
        | Tuple ts kk p =>
          cases v <;> first
            | rfl
            | (exfalso; exact n4 _ _ _ rfl)
        | _ => cases t <;> simp [chkG] at h1
    · cases h
  | .par is es, x, h => by
    simp only [chkS] at h
    split at h
    · rename_i ts kk p1 vs k2 p2 pos
      simp only [Bool.and_eq_true] at h
      obtain ⟨h1, h2⟩ := h
      have sv := star_any (env := X.env) es vs h1
      have nst := not_star es vs h1
      split at h2
      · rename_i i j x px y py a b
        simp only [Bool.and_eq_true, decide_eq_true_eq] at h2
        obtain ⟨⟨⟨g1, g2⟩, g3⟩, g4⟩ := h2
        have hx := g4
        unfold swap2 at hx
        simp only [Bool.and_eq_true, decide_eq_true_eq] at hx
        refine PS.imp (ps_par (i := i) (j := j) ok.calm ok.nd (by rw [hN]; exact g1) (by rw [hN]; exact g2) g3 (by rw [hs]; exact hx.1.1.1.1.1) (by rw [hs]; exact hx.1.1.1.1.2) (sound_Es hnx es X W [a, b] sc ok hs hN h1).1 (swap2_ok hs hk nst g4) rfl) fun D σ H q => ?_
        obtain ⟨α, ρ, S, env, st, p⟩ := q
        simp only [exS] at p
        refine stEs env st p fun ds α' H' S' us st' e' rs p' => ?_
        match ds, rs, p' with
        | [d1, d2], rs, p' =>
          obtain ⟨u1, u2, rfl, r1, r2⟩ := rs.two
          simp only [asgN] at p'
          exact ⟨u1, u2, rfl, p' α' H' _ (((env.mono e').set r1).set r2) st' .refl⟩
        | [], rs, p' => exact p'.elim
        | [_], rs, p' => exact p'.elim
        | _ :: _ :: _ :: _, rs, p' => exact p'.elim
      · rename_i i j l x px y py z pz a b c
        simp only [Bool.and_eq_true, decide_eq_true_eq] at h2
        obtain ⟨⟨⟨⟨⟨⟨g1, g2⟩, g3⟩, g4⟩, g5⟩, g6⟩, g7⟩ := h2
        have hx := g7
        unfold swap3 at hx
        simp only [Bool.and_eq_true, decide_eq_true_eq] at hx
        refine PS.imp (ps_par3 (i := i) (j := j) (l := l) ok.calm ok.nd (by rw [hN]; exact g1) (by rw [hN]; exact g2) (by rw [hN]; exact g3) g4 g5 g6 (by rw [hs]; exact hx.1.1.1.1.1.1.1.1.1) (by rw [hs]; exact hx.1.1.1.1.1.1.1.1.2) (by rw [hs]; exact hx.1.1.1.1.1.1.1.2) (sound_Es hnx es X W [a, b, c] sc ok hs hN h1).1 (swap3_ok hs hk nst g7) rfl) fun D σ H q => ?_
        obtain ⟨α, ρ, S, env, st, p⟩ := q
        simp only [exS] at p
        refine stEs env st p fun ds α' H' S' us st' e' rs p' => ?_
        match ds, rs, p' with
        | [d1, d2, d3], rs, p' =>
          obtain ⟨u1, t1, rfl, r1, rs2⟩ := rs.cons_inv
          obtain ⟨u2, u3, rfl, r2, r3⟩ := rs2.two
          simp only [asgN] at p'
          exact ⟨u1, u2, u3, rfl, p' α' H' _ ((((env.mono e').set r1).set r2).set r3) st' .refl⟩
        | [], rs, p' => exact p'.elim
        | [_], rs, p' => exact p'.elim
        | [_, _], rs, p' => exact p'.elim
        | _ :: _ :: _ :: _ :: _, rs, p' => exact p'.elim
      · cases h2
    · cases h
  | .aug i o e, x, h => by
    simp only [chkS] at h
    split at h
    · rename_i y py op v pos
      simp only [Bool.and_eq_true, decide_eq_true_eq] at h
      obtain ⟨⟨⟨h1, h2⟩, rfl⟩, h4⟩ := h
      obtain ⟨l1, _⟩ := isLoc_ok h2
      refine PS.imp (ps_aug (i := i) (ti := rAug X.K o) ok.nd (by rw [hN]; exact h1) (by rw [hs]; exact l1) (sound_E hnx e X W v sc ok hs hN h4).1 (iop_all o) (.inl (hf y))) fun D σ H q => ?_
      obtain ⟨α, ρ, S, env, st, p⟩ := q
      simp only [exS] at p
      split at p
      · rename_i d ed
        obtain ⟨u, eu, ru⟩ := env.2 i d ed
        refine ⟨u, eu, stS env st p fun d2 α1 H1 S1 v2 st1 e1 rv p1 => ⟨PXE X.K W, α1, S1, [d, d2], .cons (ru.mono e1 _ _) (.cons rv .nil), st1, ?_⟩⟩
        exact p1.st.imp fun d3 α2 H2 S2 st2 e2 p2 v3 rv3 => p2 α2 H2 _ (((env.mono e1).mono e2).set rv3) st2 .refl
      · exact p.elim
    · cases h
  | .augP _ _ _ _, x, h => by simp [chkS] at h
  | .never, x, h => ⟨fun pins s σ H D I q => by
      obtain ⟨α, ρ, S, env, st, p⟩ := q
      simp only [exS] at p
      exact p.elim⟩
  | .put o i e, x, h => by
    simp only [chkS] at h
    split at h
    · rename_i l r pos' v pos
      simp only [Bool.and_eq_true, Bool.not_eq_true'] at h
      obtain ⟨⟨⟨h1, h2⟩, h3⟩, h4⟩ := h
      have hu : X.A.units + 1 < cLine := by have := ok.room.un; omega
      refine PS.imp (ps_asg (sound_E hnx e X W v sc ok hs hN h3).1 (pg_sub (sound_E hnx o X W l sc ok hs hN h1).1 (sound_E hnx i X W r sc ok hs hN h2).1 (set_all hu) (sub_asg h2)) (show swapsWith v (some (.Subscript l r pos')) pos.line X.env = pure false from swaps_false h4) swap_sub rfl) fun D σ H q => ?_
      obtain ⟨α, ρ, S, env, st, p⟩ := q
      simp only [exS] at p
      refine stS env st p fun d1 α1 H1 S1 v1 st1 e1 rv1 p1 => stS (env.mono e1) st1 p1 fun d2 α2 H2 S2 v2 st2 e2 rv2 p2 => stS ((env.mono e1).mono e2) st2 p2 fun d3 α3 H3 S3 v3 st3 e3 rv3 p3 => ?_
      refine ⟨PXE X.K W, α3, S3, d2, d3, d1, rv2.mono e3 _ _, rv3, rv1.mono (e2.trans e3) _ _, st3, ?_⟩
      exact p3.st.imp fun _ α4 H4 S4 st4 e4 p4 => p4 α4 H4 σ ((((env.mono e1).mono e2).mono e3).mono e4) st4 .refl
    · cases h
  | .ex e, x, h => by
    simp only [chkS] at h
    split at h
    · rename_i v pos
      simp only [Bool.and_eq_true, Bool.not_eq_true'] at h
      refine PS.imp (ps_expr (sound_E hnx e X W v sc ok hs hN h.1).1 (swaps_false h.2)) fun D σ H q => ?_
      obtain ⟨α, ρ, S, env, st, p⟩ := q
      simp only [exS] at p
      exact stS env st p fun d1 α1 H1 S1 v1 st1 e1 rv1 p1 => p1 α1 H1 σ (env.mono e1) st1 .refl
    · cases h
  | .ret e, x, h => by
    simp only [chkS] at h
    split at h
    · rename_i v pos
      refine PS.imp (ps_ret (sound_E hnx e X W v sc ok hs hN h).1) fun D σ H q => ?_
      obtain ⟨α, ρ, S, env, st, p⟩ := q
      simp only [exS] at p
      exact stS env st p fun d1 α1 H1 S1 v1 st1 e1 rv1 p1 => p1 α1 H1 v1 st1 .refl rv1
    · cases h
  | .retN, x, h => by
    simp only [chkS] at h
    split at h
    · refine PS.imp ps_retN fun D σ H q => ?_
      obtain ⟨α, ρ, S, env, st, p⟩ := q
      simp only [exS] at p
      exact p α H .non st .refl rep_non
    · cases h
  | .ite t a b, x, h => by
    simp only [chkS] at h
    split at h
    · rename_i c y z pos
      simp only [Bool.and_eq_true] at h
      refine PS.imp (ps_if (sound_E hnx t X W c sc ok hs hN h.1.1).2 (sound_Ss a y h.1.2) (sound_Ss b z h.2)) fun D σ H q => ?_
      obtain ⟨α, ρ, S, env, st, p⟩ := q
      simp only [exS] at p
      refine stT env st p fun bb α1 H1 S1 st1 e1 p1 => ?_
      cases bb with
      | true => exact ⟨α1, ρ, S1, env.mono e1, st1, p1⟩
      | false => exact ⟨α1, ρ, S1, env.mono e1, st1, p1⟩
    · cases h
  | .whl t b, x, h => by
    simp only [chkS] at h
    split at h
    · rename_i c y pos
      simp only [Bool.and_eq_true] at h
      refine PS.imp (ps_while hp (sound_E hnx t X W c sc ok hs hN h.1).2 (sound_Ss b y h.2)) fun D σ H q => ?_
      obtain ⟨α, ρ, S, env, st, p⟩ := q
      simp only [exS] at p
      refine ⟨fun m σ H => ∃ α ρ S, EnvR X.K H α σ ρ ∧ StR X.K H α S ∧ PstS X.K (PXE X.K W) α H (whlGo (fun ρ S => evT (T.cfg wf k) t ρ S) (fun ρ S => exSs (T.cfg wf k) b ρ S) m ρ S) D, ⟨_, α, ρ, S, env, st, p⟩, fun m σ H q => ?_⟩
      obtain ⟨α, ρ, S, env, st, p⟩ := q
      cases m with
      | zero => exact p.elim
      | succ f =>
        unfold whlGo at p
        refine stT env st p fun bb α1 H1 S1 st1 e1 p1 => ?_
        cases bb with
        | true =>
          simp only [if_true] at p1 ⊢
          refine ⟨_, fun σ' H' h' => ⟨f, Nat.lt_succ_self f, h'⟩, α1, ρ, S1, env.mono e1, st1, PstS.turn p1 fun α2 ρ2 S2 σ2 H2 env2 st2 e2 p2 => ⟨α2, ρ2, S2, env2, st2, p2⟩⟩
        | false =>
          simp only [Bool.false_eq_true, if_false] at p1 ⊢
          exact p1 α1 H1 σ (env.mono e1) st1 .refl
    · cases h
  | .for_ t it b, x, h => by
    simp only [chkS] at h
    split at h
    · rename_i tg iter y pos
      simp only [Bool.and_eq_true] at h
      obtain ⟨⟨h1, h2⟩, h3⟩ := h
      refine PS.imp (ps_for hp ok.calm (sound_I hnx it X W tg iter sc ok hs hN h2) (sound_G hs hN ok.nd ok.calm (fun _ => hf) t tg h1) (sound_Ss b y h3) (fold_of h2)) fun D σ H q => ?_
      obtain ⟨α, ρ, S, env, st, p⟩ := q
      simp only [exS] at p
      refine ⟨α, ρ, S, env, st, p.st.imp fun w α1 H1 S1 st1 e1 p1 => fun J wk => ?_⟩
      refine ⟨fun i m σ H => ∃ α ρ S, EnvR X.K H α σ ρ ∧ StR X.K H α S ∧ Ext α1 H1 α H ∧ PstS X.K (PXE X.K W) α H (forGo w _ m i ρ S) D, ⟨w.fuel, α1, ρ, S1, env.mono e1, st1, .refl, p1⟩, fun i m σ H q => ?_⟩
      obtain ⟨α2, ρ2, S2, env2, st2, e2, p2⟩ := q
      cases m with
      | zero => exact p2.elim
      | succ f =>
        unfold forGo at p2
        cases hat : w.at i S2 with
        | none => simp only [hat] at p2; exact p2.elim
        | some o =>
          cases o with
          | none =>
            simp only [hat] at p2
            exact .inl ⟨wk.stop α2 H S2 i e2 st2 hat, p2 α2 H σ env2 st2 .refl⟩
          | some d =>
            simp only [hat] at p2
            obtain ⟨g1, g2⟩ := wk.go α2 H S2 i d e2 st2 hat
            refine .inr ⟨g1, _, fun σ' H' h' => ⟨f, Nat.lt_succ_self f, h'⟩, fun x H' y => ?_⟩
            obtain ⟨α3, st3, e3, rx⟩ := g2 x H' y
            cases qa : asgT t d ρ2 with
            | none => simp only [qa] at p2; exact p2.elim
            | some ρ' =>
              simp only [qa] at p2
              refine ⟨α3, ρ2, d, ρ', env2.mono e3, rx, qa, fun σ3 env3 l3 s3 => ⟨α3, ρ', S2, env3, st3, PstS.turn (p2.from e3) fun α4 ρ4 S4 σ4 H4 env4 st4 e4 p4 => ⟨α4, ρ4, S4, env4, st4, (e2.trans e3).trans e4, p4⟩⟩⟩
    · cases h
  | .pass, x, h => by
    simp only [chkS] at h
    split at h
    · refine PS.imp ps_pass fun D σ H q => ?_
      obtain ⟨α, ρ, S, env, st, p⟩ := q
      simp only [exS] at p
      exact p α H σ env st .refl
    · refine PS.imp ps_doc fun D σ H q => ?_
      obtain ⟨α, ρ, S, env, st, p⟩ := q
      simp only [exS] at p
      exact p α H σ env st .refl
    · cases h
  | .brk, x, h => by
    simp only [chkS] at h
    split at h
    · refine PS.imp ps_break fun D σ H q => ?_
      obtain ⟨α, ρ, S, env, st, p⟩ := q
      simp only [exS] at p
      exact p α H σ env st .refl
    · cases h
  | .cont, x, h => by
    simp only [chkS] at h
    split at h
    · refine PS.imp ps_continue fun D σ H q => ?_
      obtain ⟨α, ρ, S, env, st, p⟩ := q
      simp only [exS] at p
      exact p α H σ env st .refl
    · cases h
theorem sound_Ss : ∀ (s : Ss) (x : List Stmt), chkSs T N s sc x = true → PSs X x (tSs (T.cfg wf k) X.K (PXE X.K W) s)
  | .nil, x, h => by
    cases x with
    | nil =>
      refine PSs.imp pss_nil fun D σ H q => ?_
      obtain ⟨α, ρ, S, env, st, p⟩ := q
      simp only [exSs] at p
      exact p α H σ env st .refl
    | cons _ _ => simp [chkSs] at h
  | .cons s ss, x, h => by
    cases x with
    | nil => simp [chkSs] at h
    | cons x xs =>
      simp only [chkSs, Bool.and_eq_true] at h
      refine PSs.imp (pss_cons (sound_S s x h.1) (sound_Ss ss xs h.2)) fun D σ H q => ?_
      obtain ⟨α, ρ, S, env, st, p⟩ := q
      simp only [exSs] at p
      exact ⟨α, ρ, S, env, st, p.next⟩
end
end
end G

/-! The engine, part 12: defs, the law. -/
namespace G
open PySem PySem.Spec PyProof.Rows L2
/-! ### arguments -/
theorem zip_look {ps : List Str} {us : List Value} (h : us.length = ps.length) : ∀ n ∈ ps, ((ps.zip us).lookup n).isSome = true := by
  induction ps generalizing us with
  | nil => intro n hn; cases hn
  | cons p ps ih =>
    cases us with
    | nil => cases h
    | cons u us =>
      intro n hn
      rw [List.zip_cons_cons, List.lookup_cons]
      cases q : n == p with
      | true => rfl
      | false =>
        rcases List.mem_cons.mp hn with z | z
        · subst z; simp at q
        · exact ih (by simpa using h) n z
theorem zip_map : ∀ {ps : List Str} {us : List Value}, us.length = ps.length → ps.Nodup → ∀ (l : List (Str × Value)), (∀ n ∈ ps, l.lookup n = (ps.zip us).lookup n) → ps.filterMap (fun n => (l.lookup n).map (n, ·)) = ps.zip us
  | [], us, h, _, l, _ => by simp
  | p :: ps, [], h, _, l, _ => by cases h
  | p :: ps, u :: us, h, nd, l, hl => by
    obtain ⟨h1, h2⟩ := List.nodup_cons.mp nd
    rw [List.filterMap_cons, hl p List.mem_cons_self]
    have e : ((p :: ps).zip (u :: us)).lookup p = some u := by rw [List.zip_cons_cons, List.lookup_cons, beq_self_eq_true]
    rw [e]
    simp only [Option.map_some]
    rw [zip_map (by simpa using h) h2 l fun n hn => ?_]
    · rfl
    · rw [hl n (List.mem_cons_of_mem _ hn), List.zip_cons_cons, List.lookup_cons]
      have : (n == p) = false := by
        rw [beq_eq_false_iff_ne]
        rintro rfl
        exact h1 hn
      rw [this]
theorem bind_plain {name qual : Str} {params : Arguments} {body : List Stmt} {scope : Scope} {kV doc pm cdv ct : Value} {an : Option Addr} {ps : List Str} (h1 : params.posonlyargs = []) (h2 : params.vararg = none) (h3 : params.kwonlyargs = []) (h4 : params.kwarg = none) (h5 : params.args.map (·.arg) = ps)
    (nd : ps.Nodup) {us : List Value} (hl : us.length = ps.length) : bindArgs (PySem.W.fnOf name qual params body scope .none kV doc pm an cdv ct) ⟨us, []⟩ = pure (ps.zip us) := by
  unfold bindArgs
  simp only [PySem.W.fnOf, h1, h2, h3, h4, h5, List.map_nil, List.nil_append, List.forIn_nil, pure_bind, List.append_nil]
  have e0 : (seqItems? Value.none : Sem (Option (Array Value))) = pure none := rfl
  rw [e0]
  simp only [pure_bind]
  have e2 : (ps.filter fun n => ((ps.zip us).lookup n).isNone) = [] := by
    rw [List.filter_eq_nil_iff]
    intro n hn
    have := zip_look hl n hn
    cases q : (ps.zip us).lookup n with
    | none => rw [q] at this; cases this
    | some _ => simp
  simp [hl, e2]
  rw [zip_map hl nd _ fun _ _ => rfl]
/-! ### a def's check -/
def argsB (ps : List Str) (p : Arguments) : Bool := p.posonlyargs.isEmpty && p.vararg.isNone && p.kwonlyargs.isEmpty && p.kwarg.isNone && decide (p.args.map (·.arg) = ps)
def chkDef (T : Tab) (fd : Fd) (d : He.DefD) : Bool :=
  decide (d.at_ = (fd.name, none)) && argsB fd.ps d.params && d.dfl.isEmpty && d.kwd.isEmpty && C8.scC fd.N fd.ps d.scope && chkSs T fd.N fd.body d.scope d.body
def chkAll (T : Tab) : List Fd → List He.DefD → Bool
  | [], [] => true
  | f :: fs, d :: ds => chkDef T f d && chkAll T fs ds
  | _, _ => false
theorem chkAll_get {T : Tab} : ∀ {fs : List Fd} {ds : List He.DefD} {i : Nat} {fd : Fd}, chkAll T fs ds = true → fs[i]? = some fd → ∃ d, ds[i]? = some d ∧ chkDef T fd d = true
  | [], _, _, _, _, e => by simp at e
  | f :: fs, [], _, _, h, _ => by simp [chkAll] at h
  | f :: fs, d :: ds, 0, _, h, e => by
    simp only [chkAll, Bool.and_eq_true] at h
    simp at e
    subst e
    exact ⟨d, rfl, h.1⟩
  | f :: fs, d :: ds, i + 1, _, h, e => by
    simp only [chkAll, Bool.and_eq_true] at h
    exact chkAll_get (i := i) h.2 (by simpa using e)
/-- what the head's facts must hold -/
def glB (p : Str × D) (fa : List He.Fa) : Bool := fa.any fun f => match f, p.2 with
  | .int x i, .int j => decide (x = p.1) && decide (i = j)
  | .str x z, .str w => decide (x = p.1) && decide (z = w)
  | _, _ => false
def gloB (x : Str) (fa : List He.Fa) : Bool := fa.any fun f => match f with
  | .glo y => decide (y = x)
  | _ => false
def freeB (x : Str) (fa : List He.Fa) : Bool := fa.any fun f => match f with
  | .free y => decide (y = x)
  | _ => false
def chkTab (T : Tab) (fn : List He.DefD) (fa : List He.Fa) : Bool :=
  chkAll T T.F fn && T.F.all (fun fd => gloB fd.name fa) && T.free.all (fun x => freeB x fa) && T.gl.all fun p => glB p fa
section
variable {P : Program} {w : World} {K : PySem.W.Frag} {mg : Str → Option Value} {base : Heap} {T : Tab} {fn : List He.DefD} {fa : List He.Fa} {wf : Nat}
theorem SaysD_ok (c : He.SaysD fa fn K) {f : He.Fa} (h : f ∈ fa) : f.ok K = true := by
  have c1 := (He.ba (show ((fa.all fun f => f.ok K) && fn.all fun d => d.ok K) = true from congrArg (fun z : He.AlD => z.1) c)).1
  exact List.all_eq_true.mp c1 f h
theorem glo_of (c : He.SaysD fa fn K) (KX : K.In base) (G : base.Ns mainGlobals mg) {x : Str} (h : gloB x fa = true) : mg x = some (.ref (He.ga K x)) := by
  unfold gloB at h
  obtain ⟨f, h1, h2⟩ := List.any_eq_true.mp h
  split at h2
  · rw [decide_eq_true_eq] at h2
    subst h2
    exact He.glo_ok KX G (SaysD_ok c h1)
  · cases h2
theorem free_of (c : He.SaysD fa fn K) (KX : K.In base) (G : base.Ns mainGlobals mg) {x : Str} (h : freeB x fa = true) : mg x = none := by
  unfold freeB at h
  obtain ⟨f, h1, h2⟩ := List.any_eq_true.mp h
  split at h2
  · rw [decide_eq_true_eq] at h2
    subst h2
    exact He.free_ok KX G (SaysD_ok c h1)
  · cases h2
theorem gl_of (c : He.SaysD fa fn K) (KX : K.In base) (G : base.Ns mainGlobals mg) {p : Str × D} (h : glB p fa = true) : ∃ u, mg p.1 = some u ∧ glV p.2 u := by
  unfold glB at h
  obtain ⟨f, h1, h2⟩ := List.any_eq_true.mp h
  split at h2
  · rename_i x i j e
    simp only [Bool.and_eq_true, decide_eq_true_eq] at h2
    obtain ⟨rfl, rfl⟩ := h2
    obtain ⟨t, z⟩ := He.int_ok KX G (SaysD_ok c h1)
    exact ⟨_, z, by rw [e]; exact ⟨t, rfl⟩⟩
  · rename_i x i j e
    simp only [Bool.and_eq_true, decide_eq_true_eq] at h2
    obtain ⟨rfl, rfl⟩ := h2
    obtain ⟨t, z⟩ := He.str_ok KX G (SaysD_ok c h1)
    exact ⟨_, z, by rw [e]; exact ⟨t, rfl⟩⟩
  · cases h2
theorem start_env {H : Hp} {α : List Addr} {ds : List D} {vs : List V} {N : List Str} (r : Reps K H α ds vs) : EnvR K H α (L2.start N vs) (G.start N.length ds) := by
  refine ⟨?_, fun i d e => ?_⟩
  · unfold L2.start G.start
    rw [List.length_append, List.length_append, List.length_map, List.length_map, List.length_replicate, List.length_replicate, r.length]
  · unfold G.start at e
    unfold L2.start
    have hi : i < ds.length := by
      by_cases hi : i < ds.length
      · exact hi
      · rw [List.getElem?_append_right (by simpa using hi), List.getElem?_replicate] at e
        split at e <;> cases e
    rw [List.getElem?_append_left (by simpa using hi), List.getElem?_map] at e
    rw [List.getElem?_append_left (by rw [List.length_map, r.length]; exact hi), List.getElem?_map]
    cases q : ds[i]? with
    | none => rw [q] at e; cases e
    | some d' =>
      rw [q] at e
      cases e
      obtain ⟨v, e1, e2⟩ := r.get q
      exact ⟨v, by rw [e1]; rfl, e2⟩
/-- what a def leaves, tidied -/
theorem tidy_ok {PX : PXT} {H : Hp} {α : List Addr} {S S' : Sto} {d : D} {Q : VK} (st : StR K H α S) (p : Pst K PX α H (.ok d (tidy S.length d S')) (VF K Q)) :
    ∀ α' H' v, StR K H' α' S' → Ext α H α' H' → Rep K H' α' d v → Q v H' := by
  intro α' H' v st' e r
  unfold tidy at p
  split at p
  · rename_i h
    rw [Bool.and_eq_true] at h
    exact p (α'.take S.length) H' (st'.less h.2) (e.less st.len.symm) v (r.less _ _ h.1)
  · exact p α' H' st' e v r
/-- how a def stands -/
structure Stands (K : PySem.W.Frag) (mg : Str → Option Value) (fd : Fd) (fad : Addr) (fdt : FuncData) : Prop where
  mgf : mg fd.name = some (.ref fad)
  kp : PySem.W.keepIn K (.ref fad) = true
  b : L2.Binds K fdt fd.ps []
  lk : ∃ oc od osl, K.lookup fad = some ⟨oc, od, .func fdt, osl⟩
  ba : ∀ (s : Shared) (us : List Value), us.length = fd.ps.length → BindsTo s fdt ⟨us, []⟩ (fd.ps.zip us)
theorem fns_ok (c : He.SaysD fa fn K) (hT : chkTab T fn fa = true) (KX : K.In base) (G : base.Ns mainGlobals mg) : ∀ (k f : Nat) (fd : Fd), T.F[f]? = some fd →
    ∃ (fad : Addr) (fdt : FuncData), Stands K mg fd fad fdt ∧ FnG P w K mg base C8.CX0 k fad fdt fd.ps (spF T wf K k f) := by
  unfold chkTab at hT
  simp only [Bool.and_eq_true, List.all_eq_true] at hT
  obtain ⟨⟨⟨h1, h2⟩, h3⟩, h4⟩ := hT
  -- what stands for each def
  have base : ∀ (f : Nat) (fd : Fd), T.F[f]? = some fd → ∃ (d : He.DefD) (fdt : FuncData), fn[f]? = some d ∧ chkDef T fd d = true ∧ mg fd.name = some (.ref (He.ga K fd.name)) ∧ FunD K d.name d.qual d.params d.body d.scope (d.dvs K) (d.kws K) (He.ga K fd.name) fdt := by
    intro f fd e
    obtain ⟨d, e2, hd⟩ := chkAll_get h1 e
    obtain ⟨fdt, F⟩ := c.def_ f e2
    have hat : d.at_ = (fd.name, none) := by
      unfold chkDef at hd
      simp only [Bool.and_eq_true, decide_eq_true_eq] at hd
      exact hd.1.1.1.1.1
    rw [hat] at F
    exact ⟨d, fdt, e2, hd, glo_of c KX G (h2 fd (List.mem_of_getElem? e)), F⟩
  intro k
  induction k with
  | zero =>
    intro f fd e
    obtain ⟨d, fdt, e2, hd, hm, F⟩ := base f fd e
    unfold chkDef at hd
    simp only [Bool.and_eq_true, decide_eq_true_eq, List.isEmpty_iff] at hd
    obtain ⟨⟨⟨⟨⟨g1, g2⟩, g3⟩, g4⟩, g5⟩, g6⟩ := hd
    unfold argsB at g2
    simp only [Bool.and_eq_true, decide_eq_true_eq, List.isEmpty_iff, Option.isNone_iff_eq_none] at g2
    obtain ⟨⟨⟨⟨a1, a2⟩, a3⟩, a4⟩, a5⟩ := g2
    have S := C8.fnScope_by g5
    have nd : fd.ps.Nodup := by rw [← S.pre]; exact S.nd.sublist (List.take_sublist _ _)
    have hdv : d.dvs K = [] := by unfold He.DefD.dvs; rw [g3]; rfl
    rw [hdv] at F
    have stands : Stands K mg fd (He.ga K fd.name) fdt := ⟨hm, F.kp, F.bindsN fun kV doc pm an cdv ct us hl => bind_plain a1 a2 a3 a4 a5 nd hl, (by
      obtain ⟨oc, od, dV, kV, doc, pm, an, cdv, ct, osl, _, lk, _⟩ := F.ex
      exact ⟨oc, od, osl, lk⟩), F.bindsA fun kV doc pm an cdv ct us hl => bind_plain a1 a2 a3 a4 a5 nd hl⟩
    refine ⟨_, fdt, stands, ?_⟩
    have no : ∀ vs H Q E, ¬ spF T wf K 0 f vs H Q E := by
      rintro vs H Q E ⟨α, S, ds, _, _, p⟩
      unfold callF at p
      exact p
    exact ⟨fun vs H Q E h => (no _ _ _ _ h).elim, fun A outer s H args us vs Q E _ _ _ _ _ h => (no _ _ _ _ h).elim⟩
  | succ k ih =>
    intro f fd e
    obtain ⟨d, fdt, e2, hd, hm, F⟩ := base f fd e
    unfold chkDef at hd
    simp only [Bool.and_eq_true, decide_eq_true_eq, List.isEmpty_iff] at hd
    obtain ⟨⟨⟨⟨⟨g1, g2⟩, g3⟩, g4⟩, g5⟩, g6⟩ := hd
    unfold argsB at g2
    simp only [Bool.and_eq_true, decide_eq_true_eq, List.isEmpty_iff, Option.isNone_iff_eq_none] at g2
    obtain ⟨⟨⟨⟨a1, a2⟩, a3⟩, a4⟩, a5⟩ := g2
    have S := C8.fnScope_by g5
    have nd : fd.ps.Nodup := by rw [← S.pre]; exact S.nd.sublist (List.take_sublist _ _)
    have hdv : d.dvs K = [] := by unfold He.DefD.dvs; rw [g3]; rfl
    rw [hdv] at F
    have stands : Stands K mg fd (He.ga K fd.name) fdt := ⟨hm, F.kp, F.bindsN fun kV doc pm an cdv ct us hl => bind_plain a1 a2 a3 a4 a5 nd hl, (by
      obtain ⟨oc, od, dV, kV, doc, pm, an, cdv, ct, osl, _, lk, _⟩ := F.ex
      exact ⟨oc, od, osl, lk⟩), F.bindsA fun kV doc pm an cdv ct us hl => bind_plain a1 a2 a3 a4 a5 nd hl⟩
    refine ⟨_, fdt, stands, ?_⟩
    clear stands
    obtain ⟨oc, od, dV, kV, doc, pm, an, cdv, ct, osl, rfl, lk, hcd, _, _⟩ := F.ex
    have len : ∀ vs H Q E, spF T wf K (k + 1) f vs H Q E → vs.length = fd.ps.length := by
      rintro vs H Q E ⟨α, S, ds, rs, st, p⟩
      unfold callF at p
      simp only [e] at p
      split at p
      · rw [rs.length]
        assumption
      · exact p.elim
    refine fn_ofG lk hcd S len fun A outer s H vs Q E hr hgs hsp => ?_
    obtain ⟨α, S0, ds, rs, st, p⟩ := hsp
    unfold callF at p
    simp only [e] at p
    split at p
    · have ok : OkX T wf k C8.CX0 E (cxOf C8.CX0 P w K mg _ fd.N d.qual d.scope (He.ga K fd.name) cdv A outer s H E) :=
        ⟨rfl, S.nd, hr, hgs, fun x hx => free_of c KX G (h3 x hx), fun n q hq => gl_of c KX G (h4 q (List.mem_of_getElem? hq)), fun f' fd' e' => let ⟨a1, a2, a3, a4⟩ := ih f' fd' e'; ⟨a1, a2, a3.mgf, a3.kp, a3.b, a4⟩, C8.pass0⟩
      refine ⟨_, sound_Ss (N := fd.N) (sc := d.scope) (fun _ _ _ _ _ h => h.elim) ok rfl rfl (fun _ => rfl) S.kind (L2.passes_of (X := cxOf C8.CX0 P w K mg _ fd.N d.qual d.scope (He.ga K fd.name) cdv A outer s H E) rfl) fd.body d.body g6, ?_⟩
      refine ⟨α, _root_.G.start fd.N.length ds, S0, start_env rs, st, ?_⟩
      change Pst K (PXE K E) α H (match exSs (T.cfg wf k) fd.body (_root_.G.start fd.N.length ds) S0 with
        | .ok (.ret d) _ S' => .ok d (tidy S0.length d S')
        | .ok .nx _ S' => .ok .non (tidy S0.length .non S')
        | .ex c xs _ S' => .ex c xs S'
        | _ => .bad) (VF K Q) at p
      show PstS K (PXE K E) α H (exSs (T.cfg wf k) fd.body (_root_.G.start fd.N.length ds) S0) _
      cases q : exSs (T.cfg wf k) fd.body (_root_.G.start fd.N.length ds) S0 with
      | bad => simp only [q] at p; exact p.elim
      | ex cc xs ρ S' => simp only [q] at p; exact p
      | ok fl ρ S' =>
        cases fl with
        | nx =>
          simp only [q] at p
          exact fun α' H' σ' _ st' e' => tidy_ok st p α' H' .non st' e' rep_non
        | ret d =>
          simp only [q] at p
          exact fun α' H' v st' e' r => tidy_ok st p α' H' v st' e' r
        | brk => simp only [q] at p; exact p.elim
        | cont => simp only [q] at p; exact p.elim
    · exact p.elim
end
/-! ### the law -/
theorem law_callG {P : Program} {w : World} {K : PySem.W.Frag} {mg mb : Str → Option Value} {CX : CXT} {k : Nat} {fa a : Addr} {fd : FuncData} {x : Str} {sp : Sp} {s₁ : Shared} {vs : List Value} {ns : List Int}
    (KX : K.In s₁.heap) (hns : s₁.heap.Ns mainGlobals mg) (hb : s₁.heap.Ns builtinsNs mb) (hbb : ∀ x : Str, x ≠ "__name__" → mb x = bootBuiltins x) (hlim : s₁.heap.NoLimit) (hg : s₁.gens = #[])
    (ha : s₁.heap.get? a = some { cls := .type "list", data := .seq vs.toArray }) (hi : IntsAre vs ns) (hl : ns.length ≤ sizeLine) (hr : Room k callerA)
    (F : ∀ base : Heap, K.In base → base.Ns mainGlobals mg → FnG P w K mg base CX k fa fd [x] sp) (hbind : ∀ (s : Shared) (u : Value), BindsTo s fd ⟨[u], []⟩ [(x, u)])
    (hsp : ∀ H : Hp, Only H → SqL K H a (ns.map V.int) → sp [.ref a] H (fun v _ => v = .bl true) fun _ _ _ => False)
    (hCX : ∀ H e s', CX [] H s₁ (fun _ _ _ => False) e s' → False) :
    codeAny (model P w) callerA (.call (.ref fa) ⟨[.ref a], []⟩) (fun r s' => r = .ok (.ret (.bool true)) ∧ OldK s₁.heap s'.heap ∧ s'.os = s₁.os ∧ AllBare s'.gens) s₁ := by
  have rv := vals_ints hi
  have lenV := hi.length
  have core : ∀ H : Hp, Only H → SqL K H a (ns.map V.int) → HOk P w H s₁.heap → (∀ b, H b ≠ none → b = a) → (H a ≠ none → K.lookup a = none) →
      codeAny (model P w) callerA (.call (.ref fa) ⟨[.ref a], []⟩) (fun r s' => r = .ok (.ret (.bool true)) ∧ OldK s₁.heap s'.heap ∧ s'.os = s₁.os ∧ AllBare s'.gens) s₁ := by
    intro H hO hS hok hA hK
    have base_of : ∀ {b : Addr} {o : Obj}, s₁.heap.get? b = some o → H b = none → (hidT s₁.heap H).get? b = some o := fun e n => hidT_get e n
    have noA : ∀ {b : Addr} {o : Obj} {es : Array DictEntry} {ep : Nat}, s₁.heap.get? b = some o → o.data = .dict es ep → H b = none := fun {b o es ep} e d => by
      cases q : H b with
      | none => rfl
      | some u =>
        have e' : b = a := hA b (by rw [q]; simp)
        subst e'
        rw [ha] at e; cases e
        have d' : Data.seq vs.toArray _ = Data.dict es ep := d
        cases d'
    have nsK : ∀ {b : Addr} {m : Str → Option Value}, s₁.heap.Ns b m → (hidT s₁.heap H).Ns b m := fun {b m} ⟨o, es, ep, e, d, r⟩ => ⟨o, es, ep, base_of e (noA e d), d, r⟩
    have hKb : K.In (hidT s₁.heap H) := fun b o e => base_of (KX b o e) (by
      cases q : H b with
      | none => rfl
      | some u =>
        have e' : b = a := hA b (by rw [q]; simp)
        subst e'
        rw [hK (by rw [q]; simp)] at e; cases e)
    have hM : Mod K mg (hidT s₁.heap H) := ⟨hKb, nsK hns, ⟨mb, nsK hb, hbb⟩, let ⟨mc, h1, h2⟩ := hlim; ⟨mc, nsK h1, h2⟩⟩
    have e0 : Env0 P w K mg (hidT s₁.heap H) callerA [] s₁ H := ⟨rfl, hM, fun b o e => of_hidT e, Nat.le_of_eq (hidT_size _ _), trivial, fun b hb => absurd (show b ∈ ([] : List Addr) from hb) (by simp), hok, .of_eq hg⟩
    refine codeAny_mono ((F _ hKb (nsK hns)).run callerA [] s₁ H ⟨[.ref a], []⟩ [.ref a] [.ref a] _ _ hr rfl e0 (hbind s₁ (.ref a)) (.cons rfl .nil) (hsp H hO hS)) fun r s' h => ?_
    cases r with
    | error e => exact (hCX H e s' h).elim
    | ok fl =>
      cases fl with
      | next => exact False.elim h
      | brk => exact False.elim h
      | cont => exact False.elim h
      | ret u =>
        obtain ⟨v, H', os, bare, un, hok', r', q⟩ := h
        have q' : v = .bl true := q
        subst q'
        obtain rfl : u = Value.bool true := r'
        refine ⟨rfl, OldK.of_keep fun b o e => ?_, os, bare⟩
        cases q : H b with
        | none => exact un.keep b o e q (by intro z; exact absurd (show b ∈ ([] : List Addr) from z) (by simp)) (by simp)
        | some u =>
          rcases hO b with z | ⟨ob, xs, z⟩
          · rw [q] at z; cases z
          · have z2 := un.frzs b ob _ z
            obtain ⟨e1, _⟩ := hok b _ z
            obtain ⟨e2, _⟩ := hok' b _ z2
            rw [e] at e1; cases e1
            exact e2
  cases hk : K.lookup a with
  | some o =>
    have e := KX a o hk
    rw [ha] at e
    cases e
    refine core (fun _ => none) (fun _ => .inl rfl) (.inr ⟨_, vs.toArray, _, hk, rfl, rfl, rfl, by rw [List.size_toArray, lenV]; exact hl, by simpa using rv⟩) (fun b u z => by have z' : (none : Option HO) = some u := z; cases z') (fun b z => absurd rfl z) fun z => absurd rfl z
  | none =>
    refine core (fun b => if b = a then some (.frz { cls := .type "list", data := .seq vs.toArray } (.lst (ns.map V.int))) else none) (fun b => ?_) (.inl (.inr ⟨{ cls := .type "list", data := .seq vs.toArray }, if_pos rfl⟩)) (fun b u z => ?_) (fun b z => ?_) fun _ => hk
    · by_cases hb : b = a
      · exact .inr ⟨_, _, if_pos hb⟩
      · exact .inl (if_neg hb)
    · by_cases hb : b = a
      · have z' := (if_pos hb).symm.trans z
        cases z'
        subst hb
        exact ⟨ha, by rw [List.length_map]; exact hl, vs, _, rv, ha⟩
      · have z' := (if_neg hb).symm.trans z
        cases z'
    · by_cases hb : b = a
      · exact hb
      · exact absurd (if_neg hb) z
theorem repsInts {K : PySem.W.Frag} {H : Hp} : ∀ ns : List Int, Reps K H [] (ns.map D.int) (ns.map V.int)
  | [] => .nil
  | n :: ns => .cons rep_int (repsInts ns)
/-- THE END: a law by what its def gives at every script -/
theorem law_end {l : PySem.W.OpenLaw} {n : Nat} {q : Program} {loose : List Str} {XP : (Str → Option Value) → Heap → Prop} {d : DefRec} {m : Nat} {fa : List He.Fa} {fn : List He.DefD} (T : Tab) (wf k i : Nat) {x : Str} {fd : Fd}
    (hn : l.most = some n) (hn2 : n ≤ sizeLine) (hdf : d.params.defaults = []) (hr : Room k callerA) (hT : chkTab T fn fa = true) (hi : T.F[i]? = some fd) (hps : fd.ps = [x]) (hnm : d.name = fd.name)
    (hlaw : ∀ ns : List Int, ns.length ≤ n → (∀ z ∈ ns, Builtin.Int.intBits z ≤ 1048576) → ∃ S', callF T.F (fun n => (T.gl[n]?).map (·.2)) wf k i [.fl (ns.map .int)] [] = .ok (.bl true) S') :
    PySem.W.WalkO q loose XP (He.hookD m fa fn).says l.row.toRowW d [] (fun f vs => PySem.call f vs) := by
  refine Att.attach_callB hn hdf fun w s₀ s₁ mg mb fad o pm cd doc a vs ns G Y ho hd hcd hmg hobj hints hlen hbits hg => ?_
  obtain ⟨K, KX, c⟩ := Y
  obtain ⟨f2, fdt, m, _⟩ := fns_ok (P := l.prog) (w := w) (wf := wf) c hT KX G.T.g k i fd hi
  rw [hnm, m.mgf] at hmg
  cases hmg
  have hb : ∀ (s : Shared) (u : Value), BindsTo s fdt ⟨[u], []⟩ [(x, u)] := fun s u => by
    have := m.ba s [u] (by rw [hps]; rfl)
    rw [hps] at this
    exact this
  refine law_callG (CX := C8.CX0) (sp := spF T wf K k i) KX G.T.g G.T.b G.T.builtins G.T.nolimit hg hobj hints (Nat.le_trans hlen hn2) hr (fun base hK hG => ?_) hb (fun H hO hS => ?_) fun _ _ _ h => h
  · obtain ⟨f3, fdt2, n, F⟩ := fns_ok (P := l.prog) (w := w) (wf := wf) c hT hK hG k i fd hi
    have e1 := n.mgf
    rw [m.mgf] at e1
    cases e1
    obtain ⟨oc, od, osl, z1⟩ := m.lk
    obtain ⟨oc', od', osl', z2⟩ := n.lk
    rw [z1] at z2
    cases z2
    rw [hps] at F
    exact F
  · obtain ⟨S', e⟩ := hlaw ns hlen hbits
    have hf : FL K H a (ns.map V.int) := by
      rcases hS with (z | ⟨ob, z⟩) | z
      · rcases hO a with y | ⟨ob, xs, y⟩
        · rw [y] at z; cases z
        · rw [y] at z; cases z
      · exact .inl ⟨ob, z⟩
      · exact .inr z
    refine ⟨[], [], [.fl (ns.map .int)], .cons ?_ .nil, ⟨rfl, List.nodup_nil, fun n o a h => by simp at h⟩, ?_⟩
    · simp only [Rep]
      exact ⟨a, _, rfl, hf, repsInts ns⟩
    · rw [e]
      exact fun α' H' _ _ v rv => of_bl rv
end G

/-! The engine, part 13: reckoning with the language. -/
namespace G
open PySem
/-- a def's end -/
def leave (n : Nat) : RS → R D
  | .ok (.ret d) _ S' => .ok d (tidy n d S')
  | .ok .nx _ S' => .ok .non (tidy n .non S')
  | .ex c xs _ S' => .ex c xs S'
  | _ => .bad
theorem callF_at {F : List Fd} {gl : Nat → Option D} {wf k f : Nat} {fd : Fd} {ds : List D} {S : Sto} (h : F[f]? = some fd) (hl : ds.length = fd.ps.length) :
    callF F gl wf (k + 1) f ds S = leave S.length (exSs ⟨callF F gl wf k, wf, gl⟩ fd.body (start fd.N.length ds) S) := by
  unfold callF
  simp only [h, hl, if_true]
  unfold leave
  rfl
@[simp] theorem leave_ret {n : Nat} {d : D} {ρ : Env} {S : Sto} : leave n (.ok (.ret d) ρ S) = .ok d (tidy n d S) := rfl
@[simp] theorem leave_nx {n : Nat} {ρ : Env} {S : Sto} : leave n (.ok .nx ρ S) = .ok .non (tidy n .non S) := rfl
/-! ### what lies under a height -/
theorem underAll_iff {n : Nat} : ∀ {ds : List D}, underAll n ds = true ↔ ∀ d ∈ ds, D.under n d = true
  | [] => by simp [underAll]
  | d :: ds => by simp [underAll, underAll_iff (ds := ds)]
mutual
theorem D.under_mono {n m : Nat} (h : n ≤ m) : ∀ (d : D), d.under n = true → d.under m = true
  | .non, _ => by simp [D.under]
  | .bl _, _ => by simp [D.under]
  | .int _, _ => by simp [D.under]
  | .str _, _ => by simp [D.under]
  | .ref k, q => by
    simp only [D.under, decide_eq_true_eq] at q ⊢
    omega
  | .tup ds, q => by
    simp only [D.under] at q ⊢
    exact underAll_mono h ds q
  | .fl ds, q => by
    simp only [D.under] at q ⊢
    exact underAll_mono h ds q
theorem underAll_mono {n m : Nat} (h : n ≤ m) : ∀ (ds : List D), underAll n ds = true → underAll m ds = true
  | [], _ => by simp [underAll]
  | d :: ds, q => by
    simp only [underAll, Bool.and_eq_true] at q ⊢
    exact ⟨D.under_mono h d q.1, underAll_mono h ds q.2⟩
end
theorem Ob.under_mono {n m : Nat} (h : n ≤ m) {o : Ob} (q : o.under n = true) : o.under m = true := by
  cases o with
  | lst ds => exact underAll_mono h ds q
  | dK kvs =>
    simp only [Ob.under, List.all_eq_true] at q ⊢
    exact fun kv hk => D.under_mono h _ (q kv hk)
  | dT kvs =>
    simp only [Ob.under, List.all_eq_true] at q ⊢
    exact fun kv hk => D.under_mono h _ (q kv hk)
/-- every object leads to objects of the store -/
def Good (S : Sto) : Prop := S.all (Ob.under S.length) = true
theorem Good.set {S : Sto} {n : Nat} {o : Ob} (h : Good S) (ho : o.under S.length = true) : Good (S.set n o) := by
  unfold Good at h ⊢
  rw [List.length_set, List.all_eq_true]
  intro x hx
  rcases List.mem_or_eq_of_mem_set hx with q | q
  · exact List.all_eq_true.mp h x q
  · subst q; exact ho
theorem Good.app {S : Sto} {o : Ob} (h : Good S) (ho : o.under (S.length + 1) = true) : Good (S ++ [o]) := by
  unfold Good at h ⊢
  rw [List.length_append, List.length_singleton, List.all_eq_true]
  intro x hx
  rcases List.mem_append.mp hx with q | q
  · exact Ob.under_mono (Nat.le_succ _) (List.all_eq_true.mp h x q)
  · rw [List.mem_singleton.mp q]; exact ho
theorem tidy_back {S X : Sto} {d : D} {n : Nat} (hn : S.length = n) (g : Good S) (hd : d.under n = true) : tidy n d (S ++ X) = S := by
  subst hn
  unfold tidy
  rw [List.take_left, hd, Bool.true_and]
  unfold Good at g
  rw [if_pos g]
theorem tidy_same {S : Sto} {d : D} {n : Nat} (hn : S.length = n) : tidy n d S = S := by
  unfold tidy
  subst hn
  rw [List.take_length]
  split <;> rfl
/-! ### walks -/
/-- a for over given items -/
def forL (b : D → Env → Sto → RS) : List D → Env → Sto → RS
  | [], ρ, S => .ok .nx ρ S
  | d :: ds, ρ, S => (b d ρ S).turn fun ρ S => forL b ds ρ S
theorem forGo_its {b : D → Env → Sto → RS} : ∀ (ds pre : List D) (ρ : Env) (S : Sto), forGo (.its (pre ++ ds)) b (ds.length + 1) pre.length ρ S = forL b ds ρ S
  | [], pre, ρ, S => by
    rw [List.append_nil]
    unfold forGo forL
    simp [Wk.at]
  | d :: ds, pre, ρ, S => by
    unfold forGo forL
    have e : Wk.at (.its (pre ++ d :: ds)) pre.length S = some (some d) := by simp [Wk.at]
    rw [e]
    simp only
    congr 1
    funext ρ' S'
    have := forGo_its (b := b) ds (pre ++ [d]) ρ' S'
    rw [List.append_assoc, List.singleton_append, List.length_append, List.length_singleton] at this
    rw [List.length_cons]
    exact this
@[simp] theorem for_its {b : D → Env → Sto → RS} {ds : List D} {ρ : Env} {S : Sto} : forGo (.its ds) b (Wk.fuel (.its ds)) 0 ρ S = forL b ds ρ S := forGo_its ds [] ρ S
/-- a for over a list of the store that stays as it is, by an invariant of the turns -/
theorem forGo_liv {b : D → Env → Sto → RS} {n m : Nat} {ds : List D} (P : Nat → Env → Sto → Prop) (hP : ∀ i ρ S, P i ρ S → S[n]? = some (.lst ds)) (hm : ds.length ≤ m)
    (hb : ∀ i d ρ S, ds[i]? = some d → P i ρ S → ∃ ρ' S', (b d ρ S = .ok .nx ρ' S' ∨ b d ρ S = .ok .cont ρ' S') ∧ P (i + 1) ρ' S') :
    ∀ (f i : Nat) (ρ : Env) (S : Sto), P i ρ S → i ≤ ds.length → ds.length - i < f → ∃ ρ' S', forGo (.liv n m) b f i ρ S = .ok .nx ρ' S' ∧ P ds.length ρ' S'
  | 0, i, ρ, S, _, _, h => by omega
  | f + 1, i, ρ, S, p, hi, h => by
    unfold forGo
    have e : Wk.at (.liv n m) i S = some ds[i]? := by simp [Wk.at, hP i ρ S p]
    rw [e]
    by_cases hlt : i < ds.length
    · rw [List.getElem?_eq_getElem hlt]
      obtain ⟨ρ', S', e1, p1⟩ := hb i ds[i] ρ S (List.getElem?_eq_getElem hlt) p
      obtain ⟨ρ2, S2, e2, p2⟩ := forGo_liv P hP hm hb f (i + 1) ρ' S' p1 hlt (by omega)
      refine ⟨ρ2, S2, ?_, p2⟩
      rcases e1 with e1 | e1
      · simp only [e1, turn_nx, e2]
      · simp only [e1, turn_cont, e2]
    · have : ds[i]? = none := List.getElem?_eq_none (by omega)
      rw [this]
      have ei : i = ds.length := by omega
      subst ei
      exact ⟨ρ, S, rfl, p⟩
/-- a comprehension over given items -/
def lcL (turn : D → Sto → R (Option D)) : List D → List D → Sto → R (List D)
  | [], acc, S => .ok acc S
  | d :: ds, acc, S => match turn d S with
    | .ok (some y) S' => if acc.length < lineN then lcL turn ds (acc ++ [y]) S' else .bad
    | .ok none S' => lcL turn ds acc S'
    | _ => .bad
theorem lcGo_its {turn : D → Sto → R (Option D)} : ∀ (ds pre acc : List D) (S : Sto), lcGo (.its (pre ++ ds)) turn (ds.length + 1) pre.length acc S = lcL turn ds acc S
  | [], pre, acc, S => by
    rw [List.append_nil]
    unfold lcGo lcL
    simp [Wk.at]
  | d :: ds, pre, acc, S => by
    unfold lcGo lcL
    have e : Wk.at (.its (pre ++ d :: ds)) pre.length S = some (some d) := by simp [Wk.at]
    rw [e]
    simp only
    have ih : ∀ acc S, lcGo (.its (pre ++ d :: ds)) turn (ds.length + 1) (pre.length + 1) acc S = lcL turn ds acc S := fun acc S => by
      have := lcGo_its (turn := turn) ds (pre ++ [d]) acc S
      rw [List.append_assoc, List.singleton_append, List.length_append, List.length_singleton] at this
      exact this
    rw [List.length_cons]
    cases q : turn d S with
    | bad => rfl
    | ex c xs S' => rfl
    | ok o S' =>
      cases o with
      | none => simp only [ih]
      | some y => simp only [ih]
@[simp] theorem lc_its {turn : D → Sto → R (Option D)} {ds acc : List D} {S : Sto} : lcGo (.its ds) turn (Wk.fuel (.its ds)) 0 acc S = lcL turn ds acc S := lcGo_its ds [] acc S
/-- where a turn leaves the store alone -/
theorem lcL_pure {turn : D → Sto → R (Option D)} {g : D → Option D} {S : Sto} : ∀ (ds acc : List D), (∀ d ∈ ds, turn d S = .ok (g d) S) → acc.length + ds.length ≤ lineN → lcL turn ds acc S = .ok (acc ++ ds.filterMap g) S
  | [], acc, _, _ => by simp [lcL]
  | d :: ds, acc, h, hz => by
    rw [List.length_cons] at hz
    unfold lcL
    rw [h d List.mem_cons_self]
    cases q : g d with
    | none =>
      simp only [q]
      rw [lcL_pure ds acc (fun x hx => h x (List.mem_cons_of_mem _ hx)) (by omega), List.filterMap_cons_none q]
    | some y =>
      simp only [q]
      rw [if_pos (by omega), lcL_pure ds (acc ++ [y]) (fun x hx => h x (List.mem_cons_of_mem _ hx)) (by rw [List.length_append, List.length_singleton]; omega), List.filterMap_cons_some q, List.append_assoc]
      rfl
theorem lcGo_liv {turn : D → Sto → R (Option D)} {g : D → Option D} {S : Sto} {n m : Nat} {ds : List D} (hS : S[n]? = some (.lst ds)) (ht : ∀ d ∈ ds, turn d S = .ok (g d) S) (hz : ds.length ≤ lineN) (hm : ds.length ≤ m) :
    lcGo (.liv n m) turn (Wk.fuel (.liv n m)) 0 [] S = .ok (ds.filterMap g) S := by
  have key : ∀ (f i : Nat) (acc : List D), i ≤ ds.length → ds.length - i < f → acc.length ≤ i → lcGo (.liv n m) turn f i acc S = .ok (acc ++ (ds.drop i).filterMap g) S := by
    intro f
    induction f with
    | zero => intro i acc _ h _; omega
    | succ f ih =>
      intro i acc hi h ha
      unfold lcGo
      have e : Wk.at (.liv n m) i S = some ds[i]? := by simp [Wk.at, hS]
      rw [e]
      by_cases hlt : i < ds.length
      · rw [List.getElem?_eq_getElem hlt, List.drop_eq_getElem_cons hlt]
        simp only
        rw [ht _ (List.getElem_mem hlt)]
        cases q : g ds[i] with
        | none =>
          simp only [q]
          rw [ih (i + 1) acc hlt (by omega) (by omega), List.filterMap_cons_none q]
        | some y =>
          simp only [q]
          rw [if_pos (by omega), ih (i + 1) (acc ++ [y]) hlt (by omega) (by rw [List.length_append, List.length_singleton]; omega), List.filterMap_cons_some q, List.append_assoc]
          rfl
      · have : ds[i]? = none := List.getElem?_eq_none (by omega)
        rw [this, List.drop_eq_nil_of_le (by omega)]
        simp
  have := key (m + 1) 0 [] (Nat.zero_le _) (by omega) (Nat.zero_le _)
  rw [List.drop_zero, List.nil_append] at this
  exact this
/-! ### while -/
end G

/-! The engine, part 14: the rules by which simp reckons. -/
namespace G
open PySem
section
variable {C : Cfg} {ρ : Env} {S : Sto} {a b c e o i : E} {es : Es} {f n : Nat} {d : D} {ds : List D}
def nth : Ss → Nat → G.S
  | .cons s _, 0 => s
  | .cons _ r, n + 1 => nth r n
  | .nil, _ => .pass
def fbody : G.S → Ss
  | .for_ _ _ b => b
  | .whl _ b => b
  | _ => .nil
def getV (ρ : Env) (i : Nat) (S : Sto) : R D := match ρ[i]? with
  | some (some d) => .ok d S
  | _ => .bad
theorem getV_ok {i : Nat} (h : ρ[i]? = some (some d)) : getV ρ i S = .ok d S := by unfold getV; rw [h]
@[simp] theorem getV_zero {d : D} {ρ : Env} : getV (some d :: ρ) 0 S = .ok d S := rfl
@[simp] theorem getV_succ {x : Option D} {ρ : Env} {i : Nat} : getV (x :: ρ) (i + 1) S = getV ρ i S := rfl
@[simp] theorem ev_v {i : Nat} : evE C (.v i) ρ S = getV ρ i S := by simp only [evE]; rfl
@[simp] theorem ev_k : evE C (.k d) ρ S = .ok d S := by simp only [evE]
theorem ev_g : evE C (.g n) ρ S = match C.gl n with
    | some d => .ok d S
    | none => .bad := by simp only [evE] <;> rfl
@[simp] theorem ev_bin {o : Bo} : evE C (.bin o a b) ρ S = (evE C a ρ S).bind fun x S => (evE C b ρ S).bind fun y S => binD o x y S := by simp only [evE]
def negD (x : D) (S : Sto) : R D := match x with
  | .int i => .ok (.int (-i)) S
  | _ => .bad
@[simp] theorem negD_int {i : Int} : negD (.int i) S = .ok (.int (-i)) S := rfl
@[simp] theorem ev_neg : evE C (.neg a) ρ S = (evE C a ρ S).bind negD := by simp only [evE]; rfl
@[simp] theorem ev_cmp {o : Co} : evE C (.cmp o a b) ρ S = (evE C a ρ S).bind fun x S => (evE C b ρ S).bind fun y S => cmpD o x y S := by simp only [evE]
def chainD (r : D) (S : Sto) (k : Sto → R D) : R D := match r with
  | .bl true => k S
  | .bl false => .ok (.bl false) S
  | _ => .bad
@[simp] theorem chainD_bl {x : Bool} {k : Sto → R D} : chainD (.bl x) S k = if x then k S else .ok (.bl false) S := by cases x <;> rfl
@[simp] theorem ev_chain {o o' : Co} : evE C (.chain o o' a b c) ρ S = (evE C a ρ S).bind fun x S => (evE C b ρ S).bind fun y S => (cmpD o x y S).bind fun r S => chainD r S fun S => (evE C c ρ S).bind fun z S => cmpD o' y z S := by
  simp only [evE]
  rfl
@[simp] theorem ev_and : evE C (.and es) ρ S = evA C es ρ S := by simp only [evE]
@[simp] theorem ev_or : evE C (.or es) ρ S = evO C es ρ S := by simp only [evE]
@[simp] theorem ev_not : evE C (.not a) ρ S = (evE C a ρ S).bind fun x S => (truth x S).bind fun b S => .ok (.bl (!b)) S := by simp only [evE]
@[simp] theorem ev_ite : evE C (.ite a b c) ρ S = (evT C a ρ S).bind fun t S => if t then evE C b ρ S else evE C c ρ S := by simp only [evE]
@[simp] theorem ev_tup : evE C (.tup es) ρ S = (evEs C es ρ S).bind fun ds S => if ds.length ≤ lineN then .ok (.tup ds) S else .bad := by simp only [evE]
@[simp] theorem ev_lst : evE C (.lst es) ρ S = (evEs C es ρ S).bind fun ds S => if ds.length ≤ lineN then alloc (.lst ds) S else .bad := by simp only [evE]
@[simp] theorem ev_dict {ks : List Str} : evE C (.dict ks es) ρ S = (evEs C es ρ S).bind fun ds S => if ds.length = ks.length ∧ ks.length ≤ 15 then alloc (.dK ((ks.zip ds).foldl (fun acc kv => putK acc (.inr kv.1) kv.2) [])) S else .bad := by simp only [evE]
@[simp] theorem ev_dict0 {t : Bool} : evE C (.dict0 t) ρ S = alloc (if t then .dT [] else .dK []) S := by simp only [evE]
@[simp] theorem ev_ix : evE C (.ix a i) ρ S = (evE C a ρ S).bind fun x S => (evE C i ρ S).bind fun y S => ixD x y S := by simp only [evE]
@[simp] theorem ev_sl {l h : Eo} : evE C (.sl a l h) ρ S = (evE C a ρ S).bind fun x S => (evOp C l ρ S).bind fun l S => (evOp C h ρ S).bind fun h S => slD x l h S := by simp only [evE]
@[simp] theorem ev_rev : evE C (.rev a) ρ S = (evE C a ρ S).bind fun x S => revD x S := by simp only [evE]
@[simp] theorem ev_call : evE C (.call f es) ρ S = (evEs C es ρ S).bind fun ds S => C.call f ds S := by simp only [evE]
@[simp] theorem ev_blt {b : Bi} : evE C (.blt b es) ρ S = (evEs C es ρ S).bind fun ds S => bltD b ds S := by simp only [evE]
@[simp] theorem ev_met {m : Mt} : evE C (.met m o es) ρ S = (evE C o ρ S).bind fun x S => if isLst x S then (evEs C es ρ S).bind fun ds S => metD m x ds S else .bad := by simp only [evE]
/-- a comprehension's turn -/
def turnOf (C : Cfg) (own : List Nat) (tg : Tg) (c : Eo) (e : E) (ρ : Env) (d : D) (S : Sto) : R (Option D) := match asgT tg d (wipe ρ own) with
        | none => .bad
        | some ρ' => (evC C c ρ' S).bind fun b S => if b then (evE C e ρ' S).bind fun y S => .ok (some y) S else .ok none S
@[simp] theorem ev_lc {own : List Nat} {tg : Tg} {it : It} {c : Eo} : evE C (.lc own tg it c e) ρ S = (evI C it ρ S).bind fun w S => (lcGo w (turnOf C own tg c e ρ) w.fuel 0 [] S).bind fun ds S => alloc (.lst ds) S := by
  simp only [evE]
  rfl
@[simp] theorem evs_nil : evEs C .nil ρ S = .ok [] S := by simp only [evEs]
@[simp] theorem evs_cons : evEs C (.cons e es) ρ S = (evE C e ρ S).bind fun x S => (evEs C es ρ S).bind fun xs S => .ok (x :: xs) S := by simp only [evEs]
@[simp] theorem evop_none : evOp C .none ρ S = .ok none S := by simp only [evOp]
def toOp (d : D) (S : Sto) : R (Option Int) := match d with
  | .int i => .ok (some i) S
  | _ => .bad
@[simp] theorem toOp_int {i : Int} : toOp (.int i) S = .ok (some i) S := rfl
@[simp] theorem evop_some : evOp C (.some e) ρ S = (evE C e ρ S).bind toOp := by simp only [evOp]; rfl
@[simp] theorem evc_none : evC C .none ρ S = .ok true S := by simp only [evC]
@[simp] theorem evc_some : evC C (.some e) ρ S = evT C e ρ S := by simp only [evC]
@[simp] theorem eva_one : evA C (.cons e .nil) ρ S = evE C e ρ S := by simp only [evA]
@[simp] theorem eva_cons {e' : E} : evA C (.cons e (.cons e' es)) ρ S = (evE C e ρ S).bind fun x S => (truth x S).bind fun b S => if b then evA C (.cons e' es) ρ S else .ok x S := by simp only [evA]
@[simp] theorem evo_one : evO C (.cons e .nil) ρ S = evE C e ρ S := by simp only [evO]
@[simp] theorem evo_cons {e' : E} : evO C (.cons e (.cons e' es)) ρ S = (evE C e ρ S).bind fun x S => (truth x S).bind fun b S => if b then .ok x S else evO C (.cons e' es) ρ S := by simp only [evO]
@[simp] theorem evt_and : evT C (.and es) ρ S = evAT C es ρ S := by simp only [evT]
@[simp] theorem evt_or : evT C (.or es) ρ S = evOT C es ρ S := by simp only [evT]
@[simp] theorem evt_not : evT C (.not a) ρ S = (evT C a ρ S).bind fun b S => .ok (!b) S := by simp only [evT]
@[simp] theorem evt_ite : evT C (.ite a b c) ρ S = (evT C a ρ S).bind fun t S => if t then evT C b ρ S else evT C c ρ S := by simp only [evT]
@[simp] theorem evat_one : evAT C (.cons e .nil) ρ S = evT C e ρ S := by simp only [evAT]
@[simp] theorem evat_cons {e' : E} : evAT C (.cons e (.cons e' es)) ρ S = (evT C e ρ S).bind fun b S => if b then evAT C (.cons e' es) ρ S else .ok false S := by simp only [evAT]
@[simp] theorem evot_one : evOT C (.cons e .nil) ρ S = evT C e ρ S := by simp only [evOT]
@[simp] theorem evot_cons {e' : E} : evOT C (.cons e (.cons e' es)) ρ S = (evT C e ρ S).bind fun b S => if b then .ok true S else evOT C (.cons e' es) ρ S := by simp only [evOT]
@[simp] theorem evt_v {i : Nat} : evT C (.v i) ρ S = (evE C (.v i) ρ S).bind fun x S => truth x S := by simp only [evT]
@[simp] theorem evt_k  : evT C (.k d) ρ S = (evE C (.k d) ρ S).bind fun x S => truth x S := by simp only [evT]
@[simp] theorem evt_g  : evT C (.g n) ρ S = (evE C (.g n) ρ S).bind fun x S => truth x S := by simp only [evT]
@[simp] theorem evt_bin {o : Bo} : evT C (.bin o a b) ρ S = (evE C (.bin o a b) ρ S).bind fun x S => truth x S := by simp only [evT]
@[simp] theorem evt_neg  : evT C (.neg a) ρ S = (evE C (.neg a) ρ S).bind fun x S => truth x S := by simp only [evT]
@[simp] theorem evt_cmp {o : Co} : evT C (.cmp o a b) ρ S = (evE C (.cmp o a b) ρ S).bind fun x S => truth x S := by simp only [evT]
@[simp] theorem evt_chain {o o' : Co} : evT C (.chain o o' a b c) ρ S = (evE C (.chain o o' a b c) ρ S).bind fun x S => truth x S := by simp only [evT]
@[simp] theorem evt_tup  : evT C (.tup es) ρ S = (evE C (.tup es) ρ S).bind fun x S => truth x S := by simp only [evT]
@[simp] theorem evt_lst  : evT C (.lst es) ρ S = (evE C (.lst es) ρ S).bind fun x S => truth x S := by simp only [evT]
@[simp] theorem evt_dict {ks : List Str} : evT C (.dict ks es) ρ S = (evE C (.dict ks es) ρ S).bind fun x S => truth x S := by simp only [evT]
@[simp] theorem evt_ix  : evT C (.ix a i) ρ S = (evE C (.ix a i) ρ S).bind fun x S => truth x S := by simp only [evT]
@[simp] theorem evt_sl {l h : Eo} : evT C (.sl a l h) ρ S = (evE C (.sl a l h) ρ S).bind fun x S => truth x S := by simp only [evT]
@[simp] theorem evt_rev  : evT C (.rev a) ρ S = (evE C (.rev a) ρ S).bind fun x S => truth x S := by simp only [evT]
@[simp] theorem evt_call  : evT C (.call f es) ρ S = (evE C (.call f es) ρ S).bind fun x S => truth x S := by simp only [evT]
@[simp] theorem evt_blt {b : Bi} : evT C (.blt b es) ρ S = (evE C (.blt b es) ρ S).bind fun x S => truth x S := by simp only [evT]
@[simp] theorem evt_met {m : Mt} : evT C (.met m o es) ρ S = (evE C (.met m o es) ρ S).bind fun x S => truth x S := by simp only [evT]
@[simp] theorem evt_lc {own : List Nat} {tg : Tg} {it : It} {c : Eo} : evT C (.lc own tg it c e) ρ S = (evE C (.lc own tg it c e) ρ S).bind fun x S => truth x S := by simp only [evT]
def toW (x : D) (S : Sto) : R Wk := match x with
    | .tup ds => .ok (.its ds) S
    | .fl ds => .ok (.its ds) S
    | .ref n => match S[n]? with
      | some (.lst ds) => .ok (.liv n ds.length) S
      | _ => .bad
    | _ => .bad
@[simp] theorem toW_tup : toW (.tup ds) S = .ok (.its ds) S := rfl
@[simp] theorem toW_fl : toW (.fl ds) S = .ok (.its ds) S := rfl
@[simp] theorem toW_ref (h : S[n]? = some (.lst ds)) : toW (.ref n) S = .ok (.liv n ds.length) S := by simp only [toW, h]
@[simp] theorem evi_of : evI C (.of e) ρ S = (evE C e ρ S).bind toW := by simp only [evI]; rfl
def rng1 (x : D) (S : Sto) : R Wk := match x with
    | .int j => if j.natAbs < 2 ^ 62 then .ok (.its (rangeL 0 j.toNat)) S else .bad
    | _ => .bad
@[simp] theorem rng1_int {j : Int} (h : j.natAbs < 2 ^ 62) : rng1 (.int j) S = .ok (.its (rangeL 0 j.toNat)) S := by simp only [rng1]; rw [if_pos h]
@[simp] theorem evi_rng1 : evI C (.rng1 a) ρ S = (evE C a ρ S).bind rng1 := by simp only [evI]; rfl
@[simp] theorem exs_nil : exSs C .nil ρ S = .ok .nx ρ S := by simp only [exSs]
@[simp] theorem exs_cons {s : G.S} {ss : Ss} : exSs C (.cons s ss) ρ S = (exS C s ρ S).next fun ρ S => exSs C ss ρ S := by simp only [exSs]
def asgR (t : Tg) (x : D) (ρ : Env) (S : Sto) : RS := match asgT t x ρ with
    | some ρ' => .ok .nx ρ' S
    | none => .bad
@[simp] theorem asgT_n {i : Nat} : asgT (.n i) d ρ = some (ρ.set i (some d)) := by simp only [asgT]
@[simp] theorem asgT_t {ts : List Tg} : asgT (.t ts) (.tup ds) ρ = asgTs ts ds ρ := by simp only [asgT]
@[simp] theorem asgTs_nil : asgTs [] [] ρ = some ρ := by simp only [asgTs]
@[simp] theorem asgTs_cons {t : Tg} {ts : List Tg} : asgTs (t :: ts) (d :: ds) ρ = (asgT t d ρ).bind fun ρ' => asgTs ts ds ρ' := by simp only [asgTs]
def asgO (o : Option Env) (S : Sto) : RS := match o with
    | some ρ' => .ok .nx ρ' S
    | none => .bad
@[simp] theorem asgO_some : asgO (some ρ) S = .ok .nx ρ S := rfl
@[simp] theorem asgR_t {ts : List Tg} : asgR (.t ts) (.tup ds) ρ S = asgO (asgTs ts ds ρ) S := by unfold asgR asgO; rw [asgT_t]
@[simp] theorem asgR_n {i : Nat} : asgR (.n i) d ρ S = .ok .nx (ρ.set i (some d)) S := rfl
@[simp] theorem ex_asg {t : Tg} : exS C (.asg t e) ρ S = (evE C e ρ S).st ρ fun x S => asgR t x ρ S := by simp only [exS]; rfl
def parR (is : List Nat) (ds : List D) (ρ : Env) (S : Sto) : RS := match asgN is ds ρ with
    | some ρ' => .ok .nx ρ' S
    | none => .bad
@[simp] theorem parR2 {i j : Nat} {x y : D} : parR [i, j] [x, y] ρ S = .ok .nx ((ρ.set i (some x)).set j (some y)) S := rfl
@[simp] theorem parR3 {i j k : Nat} {x y z : D} : parR [i, j, k] [x, y, z] ρ S = .ok .nx (((ρ.set i (some x)).set j (some y)).set k (some z)) S := rfl
@[simp] theorem ex_par {is : List Nat} : exS C (.par is es) ρ S = (evEs C es ρ S).st ρ fun ds S => parR is ds ρ S := by simp only [exS]; rfl
@[simp] theorem ex_aug {i : Nat} {o : Bo} : exS C (.aug i o e) ρ S = (getV ρ i S).st ρ fun x _ => (evE C e ρ S).st ρ fun y S => (augD o x y S).st ρ fun z S => .ok .nx (ρ.set i (some z)) S := by
  simp only [exS]
  unfold getV
  cases h : ρ[i]? with
  | none => rfl
  | some q => cases q <;> rfl
@[simp] theorem ex_put : exS C (.put o i e) ρ S = (evE C e ρ S).st ρ fun v S => (evE C o ρ S).st ρ fun x S => (evE C i ρ S).st ρ fun y S => (putD x y v S).st ρ fun _ S => .ok .nx ρ S := by simp only [exS]
@[simp] theorem ex_ex : exS C (.ex e) ρ S = (evE C e ρ S).st ρ fun _ S => .ok .nx ρ S := by simp only [exS]
@[simp] theorem ex_ret : exS C (.ret e) ρ S = (evE C e ρ S).st ρ fun d S => .ok (.ret d) ρ S := by simp only [exS]
@[simp] theorem ex_retN : exS C .retN ρ S = .ok (.ret .non) ρ S := by simp only [exS]
@[simp] theorem ex_ite {x y : Ss} : exS C (.ite a x y) ρ S = (evT C a ρ S).st ρ fun c S => if c then exSs C x ρ S else exSs C y ρ S := by simp only [exS]
def whlOf (C : Cfg) (t : E) (b : Ss) (f : Nat) (ρ : Env) (S : Sto) : RS := whlGo (fun ρ S => evT C t ρ S) (fun ρ S => exSs C b ρ S) f ρ S
@[simp] theorem ex_whl {x : Ss} : exS C (.whl a x) ρ S = whlOf C a x C.wf ρ S := by simp only [exS]; rfl
/-- a while, by an invariant with a measure -/
theorem whlOf_ok {C : Cfg} {t : E} {b : Ss} (P : Nat → Env → Sto → Prop) (Qd : Env → Sto → Prop)
    (h : ∀ m ρ S, P m ρ S → (∃ S1, evT C t ρ S = .ok false S1 ∧ Qd ρ S1) ∨ (∃ S1 ρ2 S2 m', evT C t ρ S = .ok true S1 ∧ exSs C b ρ S1 = .ok .nx ρ2 S2 ∧ m' < m ∧ P m' ρ2 S2) ∨ (∃ S1 ρ2 S2, evT C t ρ S = .ok true S1 ∧ exSs C b ρ S1 = .ok .brk ρ2 S2 ∧ Qd ρ2 S2)) :
    ∀ (f m : Nat) (ρ : Env) (S : Sto), P m ρ S → m < f → ∃ ρ' S', whlOf C t b f ρ S = .ok .nx ρ' S' ∧ Qd ρ' S'
  | 0, m, ρ, S, _, hm => absurd hm (Nat.not_lt_zero _)
  | f + 1, m, ρ, S, p, hm => by
    unfold whlOf whlGo
    rcases h m ρ S p with ⟨S1, e, q⟩ | ⟨S1, ρ2, S2, m', e, e2, hlt, p2⟩ | ⟨S1, ρ2, S2, e, e2, q⟩
    · simp only [e, st_ok, Bool.false_eq_true, if_false]
      exact ⟨ρ, S1, rfl, q⟩
    · simp only [e, st_ok, if_true, e2, turn_nx]
      exact whlOf_ok P Qd h f m' ρ2 S2 p2 (by omega)
    · simp only [e, st_ok, if_true, e2, turn_brk]
      exact ⟨ρ2, S2, rfl, q⟩
/-- a for over given items, by an invariant -/
theorem forL_ok {b : D → Env → Sto → RS} (P : List D → Env → Sto → Prop) (Qd : Env → Sto → Prop)
    (h : ∀ d ds ρ S, P (d :: ds) ρ S → (∃ ρ' S', (b d ρ S = .ok .nx ρ' S' ∨ b d ρ S = .ok .cont ρ' S') ∧ P ds ρ' S') ∨ (∃ ρ' S', b d ρ S = .ok .brk ρ' S' ∧ Qd ρ' S')) (h0 : ∀ ρ S, P [] ρ S → Qd ρ S) :
    ∀ (ds : List D) (ρ : Env) (S : Sto), P ds ρ S → ∃ ρ' S', forL b ds ρ S = .ok .nx ρ' S' ∧ Qd ρ' S'
  | [], ρ, S, p => ⟨ρ, S, rfl, h0 ρ S p⟩
  | d :: ds, ρ, S, p => by
    unfold forL
    rcases h d ds ρ S p with ⟨ρ', S', e, p'⟩ | ⟨ρ', S', e, q⟩
    · obtain ⟨ρ2, S2, e2, q2⟩ := forL_ok P Qd h h0 ds ρ' S' p'
      rcases e with e | e
      · exact ⟨ρ2, S2, by rw [e]; exact e2, q2⟩
      · exact ⟨ρ2, S2, by rw [e]; exact e2, q2⟩
    · exact ⟨ρ', S', by rw [e]; rfl, q⟩
/-- a for's turn -/
def bodyOf (C : Cfg) (t : Tg) (x : Ss) (d : D) (ρ : Env) (S : Sto) : RS := match asgT t d ρ with
    | some ρ' => exSs C x ρ' S
    | none => .bad
@[simp] theorem ex_for {t : Tg} {it : It} {x : Ss} : exS C (.for_ t it x) ρ S = (evI C it ρ S).st ρ fun w S => forGo w (bodyOf C t x) w.fuel 0 ρ S := by
  simp only [exS]
  rfl
@[simp] theorem ex_pass : exS C .pass ρ S = .ok .nx ρ S := by simp only [exS]
@[simp] theorem ex_brk : exS C .brk ρ S = .ok .brk ρ S := by simp only [exS]
@[simp] theorem ex_cont : exS C .cont ρ S = .ok .cont ρ S := by simp only [exS]
/-! values -/
variable {x y : Int} {t u : Str} {p q : Bool} {xs ys : List D}
@[simp] theorem lineN_val : lineN = 16777216 := rfl
@[simp] theorem add_ii : binD .add (.int x) (.int y) S = .ok (.int (x + y)) S := rfl
@[simp] theorem add_tt (h : xs.length + ys.length ≤ lineN) : binD .add (.tup xs) (.tup ys) S = .ok (.tup (xs ++ ys)) S := by simp only [binD]; rw [if_pos h]
theorem add_rr {n m : Nat} (h1 : S[n]? = some (.lst xs)) (h2 : S[m]? = some (.lst ys)) (h : xs.length + ys.length ≤ lineN) : binD .add (.ref n) (.ref m) S = alloc (.lst (xs ++ ys)) S := by simp only [binD, h1, h2]; rw [if_pos h]
@[simp] theorem sub_ii : binD .sub (.int x) (.int y) S = .ok (.int (x - y)) S := rfl
@[simp] theorem mul_ii (h : bitsOk x y = true) : binD .mul (.int x) (.int y) S = .ok (.int (x * y)) S := by simp only [binD]; rw [if_pos h]
@[simp] theorem mod_ii (h : y ≠ 0) : binD .mod (.int x) (.int y) S = .ok (.int (x.fmod y)) S := by simp only [binD]; rw [if_pos h]
@[simp] theorem fdiv_ii (h : y ≠ 0) (h2 : Builtin.Int.intBits y ≤ 9000) : binD .fdiv (.int x) (.int y) S = .ok (.int (x.fdiv y)) S := by simp only [binD]; rw [if_pos ⟨h, h2⟩]
@[simp] theorem pow_ii (h : 0 ≤ y ∧ y.natAbs ≤ 1000000 ∧ x.natAbs < 2 ^ 64) : binD .pow (.int x) (.int y) S = .ok (.int (x ^ y.toNat)) S := by simp only [binD]; rw [if_pos h]
@[simp] theorem lt_ii : cmpD .lt (.int x) (.int y) S = .ok (.bl (decide (x < y))) S := rfl
@[simp] theorem le_ii : cmpD .le (.int x) (.int y) S = .ok (.bl (decide (x ≤ y))) S := rfl
@[simp] theorem gt_ii : cmpD .gt (.int x) (.int y) S = .ok (.bl (decide (y < x))) S := rfl
@[simp] theorem ge_ii : cmpD .ge (.int x) (.int y) S = .ok (.bl (decide (y ≤ x))) S := rfl
@[simp] theorem eq_ii : cmpD .eq (.int x) (.int y) S = .ok (.bl (x == y)) S := by simp [cmpD, eqR, eqD]
@[simp] theorem ne_ii : cmpD .ne (.int x) (.int y) S = .ok (.bl (x != y)) S := by simp [cmpD, eqR, eqD, bne]
@[simp] theorem truth_bl : truth (.bl p) S = .ok p S := rfl
@[simp] theorem truth_int : truth (.int x) S = .ok (x != 0) S := rfl
@[simp] theorem truth_tup : truth (.tup xs) S = .ok (!xs.isEmpty) S := rfl
@[simp] theorem isn_non (h : d = .non) : cmpD .isn d .non S = .ok (.bl false) S := by subst h; rfl
@[simp] theorem is_non_tup : cmpD .is_ (.tup xs) .non S = .ok (.bl false) S := rfl
@[simp] theorem isn_non_tup : cmpD .isn (.tup xs) .non S = .ok (.bl true) S := rfl
@[simp] theorem is_non_non : cmpD .is_ .non .non S = .ok (.bl true) S := rfl
@[simp] theorem int_int : bltD .int [.int x] S = .ok (.int x) S := rfl
@[simp] theorem int_bl : bltD .int [.bl p] S = .ok (.int (if p then 1 else 0)) S := rfl
@[simp] theorem len_tup : bltD .len [.tup xs] S = .ok (.int xs.length) S := rfl
@[simp] theorem len_fl : bltD .len [.fl xs] S = .ok (.int xs.length) S := rfl
@[simp] theorem len_ref (h : S[n]? = some (.lst xs)) : bltD .len [.ref n] S = .ok (.int xs.length) S := by simp only [bltD, h]
@[simp] theorem max_ii : bltD .max2 [.int x, .int y] S = .ok (.int (if y > x then y else x)) S := rfl
@[simp] theorem min_ii : bltD .min2 [.int x, .int y] S = .ok (.int (if y < x then y else x)) S := rfl
@[simp] theorem tuple_ref (h : S[n]? = some (.lst xs)) : bltD .tuple [.ref n] S = .ok (.tup xs) S := by simp only [bltD, h]
@[simp] theorem tuple_tup : bltD .tuple [.tup xs] S = .ok (.tup xs) S := rfl
@[simp] theorem list_tup : bltD .list [.tup xs] S = alloc (.lst xs) S := rfl
@[simp] theorem alloc_ok {o : Ob} : alloc o S = .ok (.ref S.length) (S ++ [o]) := rfl
@[simp] theorem ix_tup0 {z : D} : ixD (.tup xs) (.int x) S = (match L2.atI xs x with
    | some d => .ok d S
    | none => .bad) := rfl
theorem ix_tup {z : D} (h : L2.atI xs x = some z) : ixD (.tup xs) (.int x) S = .ok z S := by simp only [ixD, h]
theorem ix_lst {z : D} (hS : S[n]? = some (.lst xs)) (h : L2.atI xs x = some z) : ixD (.ref n) (.int x) S = .ok z S := by simp only [ixD, hS, h]
theorem ix_dK {z : D} {kvs : List (L2.Key × D)} (hS : S[n]? = some (.dK kvs)) (h : getK kvs (.inr t) = some z) : ixD (.ref n) (.str t) S = .ok z S := by simp only [ixD, hS, dictGet, keyOf, Option.map_some, h]
theorem put_dK {kvs : List (L2.Key × D)} (hS : S[n]? = some (.dK kvs)) (h : kvs.length < lineN) : putD (.ref n) (.str t) d S = .ok () (S.set n (.dK (putK kvs (.inr t) d))) := by simp only [putD, hS, keyOf]; rw [if_pos h]
theorem isLst_ref (h : S[n]? = some (.lst xs)) : isLst (.ref n) S = true := by simp only [isLst, h]
theorem met_app (h : S[n]? = some (.lst xs)) (hz : xs.length < lineN) : metD .app (.ref n) [d] S = .ok .non (S.set n (.lst (xs ++ [d]))) := by simp only [metD, h]; rw [if_pos hz]
theorem met_pop (h : S[n]? = some (.lst xs)) (hd : xs.getLast? = some d) : metD .pop (.ref n) [] S = .ok d (S.set n (.lst xs.dropLast)) := by simp only [metD, h, hd]
@[simp] theorem rev_tup : revD (.tup xs) S = .ok (.tup xs.reverse) S := rfl
@[simp] theorem sl_tup {l h : Option Int} : slD (.tup xs) l h S = .ok (.tup (cut xs l h)) S := rfl
@[simp] theorem sl_fl {l h : Option Int} : slD (.fl xs) l h S = alloc (.lst (cut xs l h)) S := rfl
end
end G

/-! The engine, part 15: the law's own drawing. -/
namespace G
open PySem
open Builtin.Int (intBits)
theorem bits_le {x : Int} {a b : Nat} (h : intBits x ≤ a) (h2 : a ≤ b) : intBits x ≤ b := Nat.le_trans h h2
theorem bits_iff {m : Nat} {x : Int} : intBits x ≤ m ↔ x.natAbs < 2 ^ m := PySem.intBits_le_iff
theorem bits_add {x y : Int} {a : Nat} (hx : intBits x ≤ a) (hy : intBits y ≤ a) : intBits (x + y) ≤ a + 1 := by
  rw [bits_iff] at hx hy ⊢
  have := Int.natAbs_add_le x y
  rw [Nat.pow_succ]
  omega
theorem bits_neg {x : Int} {a : Nat} (hx : intBits x ≤ a) : intBits (-x) ≤ a := by
  rw [bits_iff] at hx ⊢
  rw [Int.natAbs_neg]
  exact hx
theorem bits_sub {x y : Int} {a : Nat} (hx : intBits x ≤ a) (hy : intBits y ≤ a) : intBits (x - y) ≤ a + 1 := by
  rw [Int.sub_eq_add_neg]
  exact bits_add hx (bits_neg hy)
theorem bits_mul {x y : Int} {a b : Nat} (hx : intBits x ≤ a) (hy : intBits y ≤ b) : intBits (x * y) ≤ a + b := by
  rw [bits_iff] at hx hy ⊢
  rw [Int.natAbs_mul, Nat.pow_add]
  exact Nat.mul_lt_mul'' hx hy
theorem bits_small {x : Int} {a : Nat} (h : x.natAbs < 2 ^ a) : intBits x ≤ a := bits_iff.mpr h
theorem bitsOk_of {x y : Int} {a b : Nat} (hx : intBits x ≤ a) (hy : intBits y ≤ b) (h : a + b ≤ 134217728) : bitsOk x y = true := by
  unfold bitsOk
  exact decide_eq_true (Nat.le_trans (Nat.add_le_add hx hy) h)
theorem fmod_bounds {x b : Int} (hb : 0 < b) : 0 ≤ x.fmod b ∧ x.fmod b < b := ⟨Int.fmod_nonneg_of_pos x hb, Int.fmod_lt_of_pos x hb⟩
abbrev kv (x : Str) (d : D) : L2.Key × D := (.inr x, d)
abbrev mdict (l s : Int) (c : Nat) (p : Int) : Ob := .dK [kv "left" (.int l), kv "seed" (.int s), kv "cells" (.ref c), kv "spot" (.int p)]
/-- the law's machine: its place, its cells' place, its seed, its cells -/
structure Mc where
  n : Nat
  c : Nat
  s : Int
  cells : List Int
/-- it stands, drawn from B times at most -/
structure MachAt (M : Mc) (S : Sto) (B : Nat) (l p : Int) : Prop where
  m : S[M.n]? = some (mdict l M.s M.c p)
  cs : S[M.c]? = some (.lst (M.cells.map .int))
  ne : M.cells ≠ []
  len : M.cells.length ≤ 200
  bits : ∀ z ∈ M.cells, intBits z ≤ 1048577
  s0 : 0 ≤ M.s
  s1 : M.s < 2147483648
  p0 : 0 ≤ p
  p1 : p ≤ B
  lb : intBits l ≤ 1048577
def Mach (M : Mc) (S : Sto) (B : Nat) : Prop := ∃ l p, MachAt M S B l p
/-- the machine was drawn from, nothing else changed -/
structure Step (M : Mc) (S S' : Sto) (B : Nat) : Prop where
  good : Good S'
  mach : Mach M S' B
  len : S'.length = S.length
  same : ∀ j, j ≠ M.n → S'[j]? = S[j]?
/-- .. and new objects came -/
structure Reach (M : Mc) (S S' : Sto) (B : Nat) : Prop where
  good : Good S'
  mach : Mach M S' B
  len : S.length ≤ S'.length
  same : ∀ j, j < S.length → j ≠ M.n → S'[j]? = S[j]?
theorem MachAt.ne_cn {M : Mc} {S : Sto} {B : Nat} {l p : Int} (m : MachAt M S B l p) : M.c ≠ M.n := by
  intro e
  have h1 := m.m
  rw [← e, m.cs] at h1
  cases h1
theorem MachAt.lt {M : Mc} {S : Sto} {B : Nat} {l p : Int} (m : MachAt M S B l p) : M.n < S.length := (List.getElem?_eq_some_iff.mp m.m).1
theorem MachAt.ltc {M : Mc} {S : Sto} {B : Nat} {l p : Int} (m : MachAt M S B l p) : M.c < S.length := (List.getElem?_eq_some_iff.mp m.cs).1
theorem Mach.lt {M : Mc} {S : Sto} {B : Nat} (m : Mach M S B) : M.n < S.length := let ⟨_, _, h⟩ := m; h.lt
theorem Mach.ltc {M : Mc} {S : Sto} {B : Nat} (m : Mach M S B) : M.c < S.length := let ⟨_, _, h⟩ := m; h.ltc
theorem MachAt.more {M : Mc} {S : Sto} {B B' : Nat} {l p : Int} (m : MachAt M S B l p) (h : B ≤ B') : MachAt M S B' l p := ⟨m.m, m.cs, m.ne, m.len, m.bits, m.s0, m.s1, m.p0, by have := m.p1; omega, m.lb⟩
theorem Mach.more {M : Mc} {S : Sto} {B B' : Nat} (m : Mach M S B) (h : B ≤ B') : Mach M S B' := let ⟨l, p, q⟩ := m; ⟨l, p, q.more h⟩
theorem Mach.wide {M : Mc} {S X : Sto} {B : Nat} (m : Mach M S B) : Mach M (S ++ X) B := by
  obtain ⟨l, p, m⟩ := m
  exact ⟨l, p, by rw [List.getElem?_append_left m.lt]; exact m.m, by rw [List.getElem?_append_left m.ltc]; exact m.cs, m.ne, m.len, m.bits, m.s0, m.s1, m.p0, m.p1, m.lb⟩
theorem Step.more {M : Mc} {S S' : Sto} {B B' : Nat} (h : Step M S S' B) (hb : B ≤ B') : Step M S S' B' := ⟨h.good, h.mach.more hb, h.len, h.same⟩
theorem Step.refl {M : Mc} {S : Sto} {B : Nat} (g : Good S) (m : Mach M S B) : Step M S S B := ⟨g, m, rfl, fun _ _ => rfl⟩
theorem Step.trans {M : Mc} {S S' S'' : Sto} {B B' : Nat} (a : Step M S S' B) (b : Step M S' S'' B') : Step M S S'' B' := ⟨b.good, b.mach, b.len.trans a.len, fun j hj => (b.same j hj).trans (a.same j hj)⟩
theorem Reach.refl {M : Mc} {S : Sto} {B : Nat} (g : Good S) (m : Mach M S B) : Reach M S S B := ⟨g, m, Nat.le_refl _, fun _ _ _ => rfl⟩
theorem Reach.more {M : Mc} {S S' : Sto} {B B' : Nat} (h : Reach M S S' B) (hb : B ≤ B') : Reach M S S' B' := ⟨h.good, h.mach.more hb, h.len, h.same⟩
theorem Reach.step {M : Mc} {S S' S'' : Sto} {B B' : Nat} (a : Reach M S S' B) (b : Step M S' S'' B') : Reach M S S'' B' :=
  ⟨b.good, b.mach, by rw [b.len]; exact a.len, fun j h1 h2 => (b.same j h2).trans (a.same j h1 h2)⟩
theorem Reach.trans {M : Mc} {S S' S'' : Sto} {B B' : Nat} (a : Reach M S S' B) (b : Reach M S' S'' B') : Reach M S S'' B' :=
  ⟨b.good, b.mach, Nat.le_trans a.len b.len, fun j h1 h2 => (b.same j (Nat.lt_of_lt_of_le h1 a.len) h2).trans (a.same j h1 h2)⟩
theorem Reach.alloc {M : Mc} {S S' : Sto} {B : Nat} {o : Ob} (a : Reach M S S' B) (ho : o.under (S'.length + 1) = true) : Reach M S (S' ++ [o]) B :=
  ⟨a.good.app ho, a.mach.wide, by rw [List.length_append]; exact Nat.le_trans a.len (Nat.le_add_right _ _), fun j h1 h2 => by rw [List.getElem?_append_left (Nat.lt_of_lt_of_le h1 a.len)]; exact a.same j h1 h2⟩
/-- back at a def's end -/
theorem Reach.back {M : Mc} {S S' : Sto} {B B0 : Nat} {d : D} (a : Reach M S S' B) (g : Good S) (m : Mach M S B0) (hd : d.under S.length = true) :
    tidy S.length d S' = S'.take S.length ∧ Step M S (S'.take S.length) B := by
  obtain ⟨l, p, q⟩ := a.mach
  have hn := m.lt
  have hc := m.ltc
  have hl : (S'.take S.length).length = S.length := by rw [List.length_take]; exact Nat.min_eq_left a.len
  have gd : (S'.take S.length).all (Ob.under S.length) = true := by
    rw [List.all_eq_true]
    intro o ho
    obtain ⟨j, hj⟩ := List.getElem?_of_mem ho
    have hlt : j < S.length := by
      have := (List.getElem?_eq_some_iff.mp hj).1
      omega
    rw [List.getElem?_take_of_lt hlt] at hj
    by_cases e : j = M.n
    · subst e
      rw [q.m] at hj
      cases hj
      simp [Ob.under, D.under, hc]
    · rw [a.same j hlt e] at hj
      exact List.all_eq_true.mp g o (List.mem_of_getElem? hj)
  refine ⟨?_, ?_, ⟨l, p, ?_, ?_, q.ne, q.len, q.bits, q.s0, q.s1, q.p0, q.p1, q.lb⟩, hl, fun j hj => ?_⟩
  · unfold tidy
    rw [hd, gd]
    rfl
  · unfold Good
    rw [hl]
    exact gd
  · rw [List.getElem?_take_of_lt hn]; exact q.m
  · rw [List.getElem?_take_of_lt hc]; exact q.cs
  · by_cases hlt : j < S.length
    · rw [List.getElem?_take_of_lt hlt]
      exact a.same j hlt hj
    · rw [List.getElem?_eq_none (by omega), List.getElem?_eq_none (by omega)]
theorem get_left {l s p : Int} {c : Nat} : getK [kv "left" (.int l), kv "seed" (.int s), kv "cells" (.ref c), kv "spot" (.int p)] (.inr "left") = some (.int l) := rfl
theorem get_seed {l s p : Int} {c : Nat} : getK [kv "left" (.int l), kv "seed" (.int s), kv "cells" (.ref c), kv "spot" (.int p)] (.inr "seed") = some (.int s) := rfl
theorem get_cells {l s p : Int} {c : Nat} : getK [kv "left" (.int l), kv "seed" (.int s), kv "cells" (.ref c), kv "spot" (.int p)] (.inr "cells") = some (.ref c) := rfl
theorem get_spot {l s p : Int} {c : Nat} : getK [kv "left" (.int l), kv "seed" (.int s), kv "cells" (.ref c), kv "spot" (.int p)] (.inr "spot") = some (.int p) := rfl
theorem put_left {S : Sto} {n : Nat} {l s p l' : Int} {c : Nat} (h : S[n]? = some (mdict l s c p)) : putD (.ref n) (.str "left") (.int l') S = .ok () (S.set n (mdict l' s c p)) := by
  rw [put_dK h (by show 4 < lineN; decide)]
  rfl
theorem put_spot {S : Sto} {n : Nat} {l s p p' : Int} {c : Nat} (h : S[n]? = some (mdict l s c p)) : putD (.ref n) (.str "spot") (.int p') S = .ok () (S.set n (mdict l s c p')) := by
  rw [put_dK h (by show 4 < lineN; decide)]
  rfl
def f_drawA : Fd := ⟨"_law_draw", ["m", "bound"], ["m", "bound", "spot", "cells", "extra", "cell", "blend", "found"],
  (.cons (.ite (.cmp .gt (.ix (.v 0) (.k (.str "left"))) (.k (.int 0))) (.cons (.asg (.n 7) (.bin .mod (.blt .int (.cons (.ix (.v 0) (.k (.str "left"))) .nil)) (.v 1))) (.cons (.put (.v 0) (.k (.str "left")) (.bin .fdiv (.ix (.v 0) (.k (.str "left"))) (.v 1))) (.cons (.ret (.v 7)) .nil))) .nil) (.cons (.asg (.n 2) (.ix (.v 0) (.k (.str "spot")))) (.cons (.put (.v 0) (.k (.str "spot")) (.bin .add (.v 2) (.k (.int 1)))) (.cons (.par [3, 4] (.cons (.ix (.v 0) (.k (.str "cells"))) (.cons (.bin .add (.ix (.v 0) (.k (.str "seed"))) (.bin .mul (.bin .mul (.k (.int 40503)) (.v 2)) (.v 2))) .nil))) (.cons (.asg (.n 5) (.ix (.v 3) (.bin .mod (.blt .int (.cons (.v 2) .nil)) (.blt .len (.cons (.v 3) .nil))))) (.cons (.asg (.n 6) (.bin .mod (.blt .int (.cons (.bin .add (.bin .mul (.v 5) (.bin .add (.bin .mul (.k (.int 2)) (.v 2)) (.k (.int 3)))) (.v 4)) .nil)) (.k (.int 2147483647)))) (.cons (.asg (.n 6) (.bin .mod (.blt .int (.cons (.bin .add (.bin .add (.bin .mul (.v 6) (.v 6)) (.bin .mul (.k (.int 69621)) (.v 2))) (.ix (.v 0) (.k (.str "seed")))) .nil)) (.k (.int 2147483629)))) (.cons (.asg (.n 6) (.bin .fdiv (.bin .mod (.blt .int (.cons (.bin .add (.bin .mul (.v 6) (.k (.int 48271))) (.v 2)) .nil)) (.k (.int 2147483647))) (.k (.int 11)))) (.cons (.ite (.cmp .gt (.v 1) (.bin .pow (.k (.int 10)) (.k (.int 6)))) (.cons (.ret (.bin .mod (.blt .int (.cons (.bin .add (.bin .add (.bin .mul (.bin .mul (.v 6) (.k (.int 2147483647))) (.k (.int 2147483647))) (.bin .mul (.v 6) (.v 6))) (.v 2)) .nil)) (.v 1))) .nil) .nil) (.cons (.ret (.bin .mod (.blt .int (.cons (.v 6) .nil)) (.v 1))) .nil))))))))))⟩
/-- drawn once more -/
theorem MachAt.step {M : Mc} {S : Sto} {B : Nat} {l p l' p' : Int} (g : Good S) (m : MachAt M S B l p) (hl : intBits l' ≤ 1048577) (h0 : 0 ≤ p') (h1 : p' ≤ p + 1) : Step M S (S.set M.n (mdict l' M.s M.c p')) (B + 1) := by
  refine ⟨g.set ?_, ⟨l', p', ⟨List.getElem?_set_self m.lt, by rw [List.getElem?_set_ne (Ne.symm m.ne_cn)]; exact m.cs, m.ne, m.len, m.bits, m.s0, m.s1, h0, ?_, hl⟩⟩, List.length_set, fun j hj => List.getElem?_set_ne (Ne.symm hj)⟩
  · have := m.ltc
    simp [Ob.under, D.under, this]
  · have := m.p1
    push_cast
    omega
theorem atI_of {ds : List D} {i : Int} {d : D} (h0 : 0 ≤ i) (h : ds[i.toNat]? = some d) : L2.atI ds i = some d := by
  unfold L2.atI L2.ixN
  have hl := (List.getElem?_eq_some_iff.mp h).1
  rw [if_pos h0, if_pos (by omega)]
  exact h
theorem fdiv_bits {x b : Int} {a : Nat} (hx : 0 ≤ x) (hb : 0 < b) (h : intBits x ≤ a) : intBits (x.fdiv b) ≤ a := by
  rw [bits_iff] at h ⊢
  rw [Int.fdiv_eq_ediv_of_nonneg x (by omega)]
  have h1 : 0 ≤ x / b := Int.ediv_nonneg hx (by omega)
  have h2 : x / b ≤ x := Int.ediv_le_self b hx
  omega
theorem drawA_ok {F : List Fd} {gl : Nat → Option D} {wf k i B : Nat} {M : Mc} {S : Sto} {b : Int} (hF : F[i]? = some f_drawA) (g : Good S) (m : Mach M S B) (hB : B < 1000000) (hb : 0 < b) (hb2 : intBits b ≤ 9000) :
    ∃ r S', callF F gl wf (k + 1) i [.ref M.n, .int b] S = .ok (.int r) S' ∧ 0 ≤ r ∧ r < b ∧ Step M S S' (B + 1) := by
  obtain ⟨l, p, m⟩ := m
  obtain ⟨n, c, s, cells⟩ := M
  have h1 : S[n]? = some (mdict l s c p) := m.m
  have hne : cells ≠ [] := m.ne
  have hb0 : b ≠ 0 := by omega
  have hp0 := m.p0
  have hp1 := m.p1
  rw [callF_at hF rfl]
  by_cases hl : 0 < l
  · refine ⟨l.fmod b, S.set n (mdict (l.fdiv b) s c p), ?_, (fmod_bounds hb).1, (fmod_bounds hb).2, m.step g (fdiv_bits (by omega) hb m.lb) hp0 (by omega)⟩
    simp [f_drawA, start, ix_dK h1 get_left, ix_dK h1 get_spot, hl, hb0, hb2, put_left h1, tidy_same]
  · have st := m.step g (p' := p + 1) m.lb (by omega) (by omega)
    have hS : (S.set n (mdict l s c (p + 1)))[n]? = some (mdict l s c (p + 1)) := List.getElem?_set_self m.lt
    have hc : (S.set n (mdict l s c (p + 1)))[c]? = some (.lst (cells.map .int)) := by rw [List.getElem?_set_ne (Ne.symm m.ne_cn)]; exact m.cs
    have hlen : 0 < (cells.length : Int) := by
      have := List.length_pos_iff.mpr hne
      omega
    have hlen0 : ((cells.length : Nat) : Int) ≠ 0 := by omega
    obtain ⟨f1, f2⟩ := fmod_bounds (x := p) hlen
    obtain ⟨z, hz⟩ : ∃ z, cells[(p.fmod cells.length).toNat]? = some z := ⟨_, List.getElem?_eq_getElem (by omega)⟩
    have hat : L2.atI (cells.map D.int) (p.fmod cells.length) = some (D.int z) := atI_of f1 (by rw [List.getElem?_map, hz]; rfl)
    have zb : intBits z ≤ 1048577 := m.bits z (List.mem_of_getElem? hz)
    have pb : intBits p ≤ 20 := bits_small (by omega)
    have b40 : intBits 40503 ≤ 16 := bits_small (by decide)
    have k1 : bitsOk 40503 p = true := bitsOk_of b40 pb (by decide)
    have k2 : bitsOk (40503 * p) p = true := bitsOk_of (bits_mul b40 pb) pb (by decide)
    have k3 : bitsOk 2 p = true := bitsOk_of (a := 2) (bits_small (by decide)) pb (by decide)
    have k4 : bitsOk z (2 * p + 3) = true := bitsOk_of zb (b := 30) (bits_small (by omega)) (by decide)
    have k5 : bitsOk 69621 p = true := bitsOk_of (a := 20) (bits_small (by decide)) pb (by decide)
    simp [f_drawA, start, ix_dK h1 get_left, ix_dK h1 get_spot, hl, hb0, hb2, put_spot h1, ix_dK hS get_cells, ix_dK hS get_seed, tidy_same, len_ref hc, hne, ix_lst hc hat, k1, k2, k3, k4, k5]
    generalize hx1 : Int.fmod _ 2147483647 = x1
    obtain ⟨u1, u2⟩ : 0 ≤ x1 ∧ x1 < 2147483647 := by rw [← hx1]; exact fmod_bounds (by decide)
    have b1 : intBits x1 ≤ 31 := bits_small (by omega)
    have k6 : bitsOk x1 x1 = true := bitsOk_of b1 b1 (by decide)
    simp [k6, k5, ix_dK hS get_seed]
    generalize hx2 : Int.fmod _ 2147483629 = x2
    obtain ⟨v1, v2⟩ : 0 ≤ x2 ∧ x2 < 2147483629 := by rw [← hx2]; exact fmod_bounds (by decide)
    have k7 : bitsOk x2 48271 = true := bitsOk_of (a := 31) (b := 16) (bits_small (by omega)) (bits_small (by decide)) (by decide)
    have n11 : intBits 11 ≤ 9000 := bits_le (a := 4) (bits_small (by decide)) (by decide)
    simp [k7, n11]
    generalize hx4 : Int.fmod _ 2147483647 = x4
    obtain ⟨w1, w2⟩ : 0 ≤ x4 ∧ x4 < 2147483647 := by rw [← hx4]; exact fmod_bounds (by decide)
    have b4 : intBits (x4.fdiv 11) ≤ 31 := fdiv_bits w1 (by decide) (bits_small (by omega))
    generalize x4.fdiv 11 = x3 at b4 ⊢
    have c31 : intBits 2147483647 ≤ 31 := bits_small (by decide)
    have k8 : bitsOk x3 2147483647 = true := bitsOk_of b4 c31 (by decide)
    have k9 : bitsOk (x3 * 2147483647) 2147483647 = true := bitsOk_of (bits_mul b4 c31) c31 (by decide)
    have k10 : bitsOk x3 x3 = true := bitsOk_of b4 b4 (by decide)
    by_cases hbig : 1000000 < b
    · simp [hbig, k8, k9, k10, hb0, tidy_same]
      exact ⟨_, _, ⟨rfl, rfl⟩, (fmod_bounds hb).1, (fmod_bounds hb).2, st⟩
    · simp [hbig, hb0, tidy_same]
      exact ⟨_, _, ⟨rfl, rfl⟩, (fmod_bounds hb).1, (fmod_bounds hb).2, st⟩
def f_of (j : Nat) : Fd := ⟨"_law_of", ["m", "some"], ["m", "some"],
  (.cons (.ret (.ix (.v 1) (.call j (.cons (.v 0) (.cons (.blt .len (.cons (.v 1) .nil)) .nil))))) .nil)⟩
theorem lst_under {S : Sto} {n : Nat} {ds : List D} (g : Good S) (h : S[n]? = some (.lst ds)) : ∀ d ∈ ds, d.under S.length = true := by
  have := List.all_eq_true.mp g _ (List.mem_of_getElem? h)
  exact underAll_iff.mp (by simpa [Ob.under] using this)
theorem len_bits {n : Nat} (h : n < 2 ^ 60) : intBits (n : Int) ≤ 9000 := bits_le (a := 60) (bits_small (by simpa using h)) (by decide)
theorem ofA_ok {F : List Fd} {gl : Nat → Option D} {wf k i j t B : Nat} {M : Mc} {S : Sto} {ds : List D} (hF : F[i]? = some (f_of j)) (hJ : F[j]? = some f_drawA) (g : Good S) (m : Mach M S B) (hB : B < 1000000)
    (ht : S[t]? = some (.lst ds)) (htn : t ≠ M.n) (hne : ds ≠ []) (hlen : ds.length < 100000) :
    ∃ d S', callF F gl wf (k + 2) i [.ref M.n, .ref t] S = .ok d S' ∧ d ∈ ds ∧ Step M S S' (B + 1) := by
  have hpos : 0 < ds.length := List.length_pos_iff.mpr hne
  obtain ⟨r, S', e, r0, r1, st⟩ := drawA_ok (F := F) (gl := gl) (wf := wf) (k := k) (i := j) (b := ds.length) hJ g m hB (by omega) (len_bits (by omega))
  have hd : ds[r.toNat]? = some (ds[r.toNat]'(by omega)) := List.getElem?_eq_getElem (by omega)
  refine ⟨_, S', ?_, List.mem_of_getElem? hd, st⟩
  rw [callF_at hF rfl]
  have ht' : S'[t]? = some (.lst ds) := by rw [st.same t htn]; exact ht
  simp [f_of, start, len_ref ht, e, ix_lst ht' (atI_of r0 hd), tidy_same st.len]
section
variable {S X : Sto} {o0 o1 o2 o3 o4 o5 o6 o7 : Ob}
@[simp] theorem at_0 : (S ++ o0 :: X)[S.length]? = some o0 := by simp
@[simp] theorem at_1 : (S ++ o0 :: o1 :: X)[S.length + 1]? = some o1 := by rw [List.getElem?_append_right (by omega)]; simp
@[simp] theorem at_2 : (S ++ o0 :: o1 :: o2 :: X)[S.length + 2]? = some o2 := by rw [List.getElem?_append_right (by omega)]; simp
@[simp] theorem at_3 : (S ++ o0 :: o1 :: o2 :: o3 :: X)[S.length + 3]? = some o3 := by rw [List.getElem?_append_right (by omega)]; simp
@[simp] theorem at_4 : (S ++ o0 :: o1 :: o2 :: o3 :: o4 :: X)[S.length + 4]? = some o4 := by rw [List.getElem?_append_right (by omega)]; simp
@[simp] theorem at_5 : (S ++ o0 :: o1 :: o2 :: o3 :: o4 :: o5 :: X)[S.length + 5]? = some o5 := by rw [List.getElem?_append_right (by omega)]; simp
@[simp] theorem at_6 : (S ++ o0 :: o1 :: o2 :: o3 :: o4 :: o5 :: o6 :: X)[S.length + 6]? = some o6 := by rw [List.getElem?_append_right (by omega)]; simp
@[simp] theorem at_7 : (S ++ o0 :: o1 :: o2 :: o3 :: o4 :: o5 :: o6 :: o7 :: X)[S.length + 7]? = some o7 := by rw [List.getElem?_append_right (by omega)]; simp
end
theorem cut_map {α β : Type} {f : α → β} {xs : List α} {lo hi : Option Int} : cut (xs.map f) lo hi = (cut xs lo hi).map f := by
  unfold cut
  rw [List.length_map, List.map_take, List.map_drop]
theorem cut_len {α : Type} {xs : List α} {lo hi : Option Int} : (cut xs lo hi).length ≤ xs.length := by
  unfold cut
  rw [List.length_take, List.length_drop]
  omega
theorem cut_mem {α : Type} {xs : List α} {lo hi : Option Int} {x : α} (h : x ∈ cut xs lo hi) : x ∈ xs := List.mem_of_mem_drop (List.mem_of_mem_take h)
/-- data as data -/
theorem pd_ref {S : Sto} {k n : Nat} {ds : List D} {ps : List PyData} (h : S[n]? = some (.lst ds)) (e : ds.mapM (toPD S k) = some ps) : toPD S (k + 1) (.ref n) = some (.list ps) := by
  simp only [toPD, h, e, Option.map_some]
theorem pd_tup {S : Sto} {k : Nat} {ds : List D} {ps : List PyData} (e : ds.mapM (toPD S k) = some ps) : toPD S (k + 1) (.tup ds) = some (.tuple ps) := by
  simp only [toPD, e, Option.map_some]
theorem pd_int {S : Sto} {k : Nat} {i : Int} : toPD S (k + 1) (.int i) = some (.int i) := by simp only [toPD]
theorem pds_map {S : Sto} {k : Nat} {α : Type} {f : α → D} {g : α → PyData} : ∀ l : List α, (∀ x ∈ l, toPD S k (f x) = some (g x)) → (l.map f).mapM (toPD S k) = some (l.map g)
  | [], _ => rfl
  | x :: l, h => by
    rw [List.map_cons, List.mapM_cons, h x List.mem_cons_self, pds_map l fun y hy => h y (List.mem_cons_of_mem _ hy)]
    rfl
theorem pds_cons {S : Sto} {k : Nat} {d : D} {ds : List D} {p : PyData} {ps : List PyData} (h : toPD S k d = some p) (t : ds.mapM (toPD S k) = some ps) : (d :: ds).mapM (toPD S k) = some (p :: ps) := by
  rw [List.mapM_cons, h, t]
  rfl
theorem pds_nil {S : Sto} {k : Nat} : ([] : List D).mapM (toPD S k) = some [] := rfl
theorem lay_map {α : Type} {g : α → PyData} : ∀ l : List α, (∀ x ∈ l, (g x).canLay0 = true) → PyData.canLayAll0 (l.map g) = true
  | [], _ => by simp [PyData.canLayAll0]
  | x :: l, h => by
    simp only [List.map_cons, PyData.canLayAll0, Bool.and_eq_true]
    exact ⟨h x List.mem_cons_self, lay_map l fun y hy => h y (List.mem_cons_of_mem _ hy)⟩
theorem eqD_tup {S : Sto} {xs : List D} {b : D} {p q : PyData} (h1 : toPD S 60 (.tup xs) = some p) (h2 : toPD S 60 b = some q) (l1 : p.canLay0 = true) (l2 : q.canLay0 = true) : eqD S (.tup xs) b = some (PyData.eqv p q) := by
  unfold eqD
  simp only [h1, h2, l1, l2, Bool.and_self, if_true]
theorem eqD_ref {S : Sto} {n : Nat} {b : D} {p q : PyData} (h1 : toPD S 60 (.ref n) = some p) (h2 : toPD S 60 b = some q) (l1 : p.canLay0 = true) (l2 : q.canLay0 = true) : eqD S (.ref n) b = some (PyData.eqv p q) := by
  unfold eqD
  simp only [h1, h2, l1, l2, Bool.and_self, if_true]
/-- a list's == and != with [] -/
theorem eq_nil {S : Sto} {n m : Nat} {ds : List D} {ps : List PyData} (h1 : S[n]? = some (.lst ds)) (h2 : S[m]? = some (.lst [])) (e : ds.mapM (toPD S 59) = some ps) (l : PyData.canLayAll0 ps = true) : cmpD .eq (.ref n) (.ref m) S = .ok (.bl ds.isEmpty) S ∧ cmpD .ne (.ref n) (.ref m) S = .ok (.bl (!ds.isEmpty)) S := by
  have := eqD_ref (pd_ref (k := 59) h1 e) (pd_ref (k := 59) h2 pds_nil) (by simpa [PyData.canLay0] using l) (by simp [PyData.canLay0, PyData.canLayAll0])
  simp only [cmpD, eqR, this]
  cases ds with
  | nil =>
    cases e
    simp [PyData.eqv, PyData.eqvAll]
  | cons d ds =>
    cases ps with
    | nil =>
      rw [List.mapM_cons] at e
      cases q : toPD S 59 d with
      | none => rw [q] at e; cases e
      | some p =>
        rw [q] at e
        cases q2 : ds.mapM (toPD S 59) with
        | none => rw [q2] at e; cases e
        | some ps' => rw [q2] at e; cases e
    | cons p ps => simp [PyData.eqv, PyData.eqvAll]
theorem ne_nil {S : Sto} {n m : Nat} {zs : List Int} (h1 : S[n]? = some (.lst (zs.map .int))) (h2 : S[m]? = some (.lst [])) : cmpD .ne (.ref n) (.ref m) S = .ok (.bl (!zs.isEmpty)) S := by
  have := (eq_nil h1 h2 (pds_map (g := PyData.int) zs fun _ _ => pd_int) (lay_map zs fun _ _ => by simp [PyData.canLay0])).2
  simpa using this
def f_begunA (a0 a1 a2 : Int) : Fd := ⟨"_law_begun", ["script", "k"], ["script", "k", "cells", "great", "seed", "cell"],
  (.cons (.asg (.n 2) (.bin .add (.sl (.v 0) (.some (.v 1)) .none) (.sl (.v 0) .none (.some (.v 1))))) (.cons (.asg (.n 3) (.lc [5] (.n 5) (.of (.v 2)) (.some (.cmp .ge (.v 5) (.bin .pow (.k (.int 10)) (.k (.int 18))))) (.v 5))) (.cons (.asg (.n 4) (.bin .add (.k (.int a0)) (.v 1))) (.cons (.for_ (.n 5) (.of (.v 2)) (.cons (.asg (.n 4) (.bin .mod (.blt .int (.cons (.bin .add (.bin .mul (.v 4) (.k (.int 48271))) (.v 5)) .nil)) (.k (.int 2147483647)))) .nil)) (.cons (.ret (.dict ["left", "seed", "cells", "spot"] (.cons (.ite (.and (.cons (.cmp .ne (.v 3) (.lst .nil)) (.cons (.cmp .lt (.v 1) (.blt .len (.cons (.v 2) .nil))) .nil))) (.ix (.v 3) (.k (.int 0))) (.k (.int 0))) (.cons (.v 4) (.cons (.bin .add (.v 2) (.lst (.cons (.bin .add (.bin .mul (.k (.int a1)) (.v 1)) (.k (.int a2))) .nil))) (.cons (.k (.int 0)) .nil)))))) .nil)))))⟩
theorem begunA_ok {F : List Fd} {gl : Nat → Option D} {wf k i : Nat} {S : Sto} {ns : List Int} {q a0 a1 a2 : Int} (hF : F[i]? = some (f_begunA a0 a1 a2)) (g : Good S) (hn : ns.length ≤ 63) (hb : ∀ z ∈ ns, intBits z ≤ 1048576) (hq : 0 ≤ q) (hq2 : q ≤ 10)
    (h0 : 0 ≤ a0 ∧ a0 ≤ 1000) (h1 : 0 ≤ a1 ∧ a1 ≤ 1000) (h2 : 0 ≤ a2 ∧ a2 ≤ 1000) :
    ∃ X M, callF F gl wf (k + 1) i [.fl (ns.map .int), .int q] S = .ok (.ref M.n) (S ++ X) ∧ Good (S ++ X) ∧ Mach M (S ++ X) 0 ∧ S.length ≤ M.n ∧ S.length ≤ M.c := by
  rw [callF_at hF rfl]
  have l63 : ∀ lo hi, (cut ns lo hi).length ≤ 63 := fun lo hi => Nat.le_trans cut_len hn
  have z1 := l63 (some q) none
  have z2 := l63 none (some q)
  simp [f_begunA, start, cut_map]
  generalize hA : cut ns (some q) none = as at *
  generalize hB : cut ns none (some q) = bs at *
  have hab : ∀ z ∈ as ++ bs, intBits z ≤ 1048576 := fun z hz => by
    rcases List.mem_append.mp hz with h | h
    · rw [← hA] at h; exact hb z (cut_mem h)
    · rw [← hB] at h; exact hb z (cut_mem h)
  have e1 : binD .add (.ref S.length) (.ref (S.length + 1)) (S ++ [.lst (as.map .int), .lst (bs.map .int)]) = alloc (.lst (as.map .int ++ bs.map .int)) (S ++ [.lst (as.map .int), .lst (bs.map .int)]) :=
    add_rr (by simp) (by simp) (by rw [List.length_map, List.length_map]; unfold lineN; omega)
  simp [e1, ← List.map_append]
  generalize hC : as ++ bs = cs at *
  have zc : cs.length ≤ 126 := by rw [← hC, List.length_append]; omega
  have hlc : cs.length ≤ as.length + bs.length := by rw [← hC, List.length_append]; exact Nat.le_refl _
  generalize hM : as.length + bs.length = mm at *
  generalize hT : turnOf _ _ _ _ _ _ = turn
  have e2 : lcGo (.liv (S.length + 2) mm) turn (Wk.fuel (.liv (S.length + 2) mm)) 0 [] (S ++ [.lst (as.map .int), .lst (bs.map .int), .lst (cs.map .int)]) =
      .ok ((cs.map D.int).filterMap fun d => match d with
        | .int z => if 1000000000000000000 ≤ z then some d else none
        | _ => none) (S ++ [.lst (as.map .int), .lst (bs.map .int), .lst (cs.map .int)]) := by
    refine lcGo_liv (by simp) (fun d hd => ?_) (by rw [List.length_map]; unfold lineN; omega) (by rw [List.length_map]; exact hlc)
    obtain ⟨z, hz, rfl⟩ := List.mem_map.mp hd
    rw [← hT]
    simp [turnOf, wipe]
    by_cases h : 1000000000000000000 ≤ z <;> simp [h]
  have e3 : ((cs.map D.int).filterMap fun d => match d with
        | .int z => if 1000000000000000000 ≤ z then some d else none
        | _ => none) = (cs.filter fun z => decide (1000000000000000000 ≤ z)).map D.int := by
    clear e2 hT hC hlc zc hab
    induction cs with
    | nil => rfl
    | cons c cs ih =>
      rw [List.map_cons, List.filterMap_cons, List.filter_cons]
      by_cases h : 1000000000000000000 ≤ c
      · simp only [h, if_true, decide_true]
        rw [ih]
        rfl
      · simp only [h, if_false, decide_false, Bool.false_eq_true]
        exact ih
  rw [e3] at e2
  generalize hG : (cs.filter fun z => decide (1000000000000000000 ≤ z)) = gs at *
  have hgs : ∀ z ∈ gs, intBits z ≤ 1048576 ∧ 0 ≤ z := fun z hz => by
    rw [← hG] at hz
    obtain ⟨k1, k2⟩ := List.mem_filter.mp hz
    exact ⟨hab z k1, by have := of_decide_eq_true k2; omega⟩
  simp [e2]
  generalize hbod : bodyOf _ _ _ = bod
  have e4 := forGo_liv (b := bod) (n := S.length + 2) (m := cs.length) (ds := cs.map D.int)
    (fun i ρ S' => S' = S ++ [.lst (as.map .int), .lst (bs.map .int), .lst (cs.map .int), .lst (gs.map .int)] ∧ ∃ sd x, ρ = [some (.fl (ns.map .int)), some (.int q), some (.ref (S.length + 2)), some (.ref (S.length + 3)), some (.int sd), x] ∧ 0 ≤ sd ∧ sd < 2147483648)
    (fun i ρ S' h => by rw [h.1]; simp) (by rw [List.length_map]; exact Nat.le_refl _) (fun i d ρ S' hd h => by
      obtain ⟨rfl, sd, x, rfl, s0, s1⟩ := h
      rw [List.getElem?_map, Option.map_eq_some_iff] at hd
      obtain ⟨z, hz, rfl⟩ := hd
      have kk : bitsOk sd 48271 = true := bitsOk_of (a := 31) (b := 16) (bits_small (by omega)) (bits_small (by decide)) (by decide)
      obtain ⟨y1, y2⟩ := fmod_bounds (x := sd * 48271 + z) (b := 2147483647) (by decide)
      exact ⟨[some (.fl (ns.map .int)), some (.int q), some (.ref (S.length + 2)), some (.ref (S.length + 3)), some (.int ((sd * 48271 + z).fmod 2147483647)), some (.int z)], _, .inl (by rw [← hbod]; simp [bodyOf, kk]), rfl, _, _, rfl, y1, by omega⟩)
  obtain ⟨_, _, e5, rfl, sd, x, rfl, s0, s1⟩ := e4 (cs.length + 1) 0 [some (.fl (ns.map .int)), some (.int q), some (.ref (S.length + 2)), some (.ref (S.length + 3)), some (.int (a0 + q)), none] _ ⟨rfl, a0 + q, none, rfl, by omega, by omega⟩ (Nat.zero_le _) (by rw [List.length_map]; omega)
  have hne : cmpD .ne (.ref (S.length + 3)) (.ref (S.length + 4)) (S ++ [.lst (as.map .int), .lst (bs.map .int), .lst (cs.map .int), .lst (gs.map .int), .lst []]) = .ok (.bl (!gs.isEmpty)) (S ++ [.lst (as.map .int), .lst (bs.map .int), .lst (cs.map .int), .lst (gs.map .int), .lst []]) :=
    ne_nil at_3 at_4
  have kq : bitsOk a1 q = true := bitsOk_of (a := 10) (b := 4) (bits_small (by omega)) (bits_small (by omega)) (by decide)
  have e6 : binD .add (.ref (S.length + 2)) (.ref (S.length + 5)) (S ++ [.lst (as.map .int), .lst (bs.map .int), .lst (cs.map .int), .lst (gs.map .int), .lst [], .lst [.int (a1 * q + a2)]]) =
      alloc (.lst ((cs ++ [a1 * q + a2]).map .int)) (S ++ [.lst (as.map .int), .lst (bs.map .int), .lst (cs.map .int), .lst (gs.map .int), .lst [], .lst [.int (a1 * q + a2)]]) := by
    rw [List.map_append]
    exact add_rr at_2 at_5 (by rw [List.length_map]; show cs.length + 1 ≤ 16777216; omega)
  have hlast : intBits (a1 * q + a2) ≤ 1048577 := bits_le (bits_add (a := 14) (bits_le (bits_mul (a := 10) (b := 4) (bits_small (by omega)) (bits_small (by omega))) (by decide)) (bits_small (by omega))) (by decide)
  obtain ⟨l, hl, e7⟩ : ∃ l, intBits l ≤ 1048577 ∧ ((gs.isEmpty = false ∧ q < cs.length ∧ L2.atI (gs.map D.int) 0 = some (.int l)) ∨ ((gs.isEmpty = true ∨ ¬ q < cs.length) ∧ l = 0)) := by
    cases hg : gs.isEmpty with
    | true => exact ⟨0, bits_le (a := 1) (bits_small (by decide)) (by decide), .inr ⟨.inl rfl, rfl⟩⟩
    | false =>
      by_cases hq' : q < cs.length
      · cases gs with
        | nil => cases hg
        | cons z zs => exact ⟨z, bits_le (hgs z List.mem_cons_self).1 (by decide), .inl ⟨rfl, hq', atI_of (Int.le_refl _) rfl⟩⟩
      · exact ⟨0, bits_le (a := 1) (bits_small (by decide)) (by decide), .inr ⟨.inr hq', rfl⟩⟩
  refine ⟨[.lst (as.map .int), .lst (bs.map .int), .lst (cs.map .int), .lst (gs.map .int), .lst [], .lst [.int (a1 * q + a2)], .lst ((cs ++ [a1 * q + a2]).map .int), mdict l sd (S.length + 6) 0], ⟨S.length + 7, S.length + 6, sd, cs ++ [a1 * q + a2]⟩, ?_, ?_, ?_, by simp, by simp⟩
  · have e5' : Wk.fuel (.liv (S.length + 2) cs.length) = cs.length + 1 := rfl
    rw [e5', e5]
    have fin : ∀ X : Sto, tidy S.length (.ref (S.length + 7)) X = X := fun X => by
      have : D.under S.length (.ref (S.length + 7)) = false := by simp [D.under]
      unfold tidy
      rw [this]
      rfl
    rcases e7 with ⟨g1, g2, g3⟩ | ⟨g1, rfl⟩
    · simp [hne, g1, g2, ix_lst at_3 g3, kq, e6]
      rw [fin]
      rfl
    · have hcond : (!gs.isEmpty && decide (q < cs.length)) = false := by
        rcases g1 with g1 | g1
        · rw [g1]; rfl
        · rw [decide_eq_false g1, Bool.and_false]
      cases hg : gs.isEmpty with
      | true =>
        rw [hg] at hne
        simp [hne, kq, e6]
        rw [fin]
        rfl
      | false =>
        rw [hg] at hne hcond
        have : ¬ q < cs.length := by simpa using hcond
        simp [hne, this, kq, e6]
        rw [fin]
        rfl
  · have g' : ∀ o ∈ S, o.under (S.length + 8) = true := fun o ho => Ob.under_mono (by omega) (List.all_eq_true.mp g o ho)
    have hint : ∀ (n : Nat) (l : List Int), Ob.under n (.lst (l.map .int)) = true := fun n l => by
      simp only [Ob.under, underAll_iff]
      intro d hd
      obtain ⟨z, _, rfl⟩ := List.mem_map.mp hd
      simp [D.under]
    unfold Good
    rw [List.all_eq_true]
    intro o ho
    rw [List.length_append]
    rcases List.mem_append.mp ho with h | h
    · exact g' o h
    · simp only [List.mem_cons, List.not_mem_nil, or_false] at h
      rcases h with rfl | rfl | rfl | rfl | rfl | rfl | rfl | rfl
      · exact hint _ _
      · exact hint _ _
      · exact hint _ _
      · exact hint _ _
      · simp [Ob.under, underAll]
      · exact hint _ [a1 * q + a2]
      · exact hint _ _
      · simp [Ob.under, D.under]
  · refine ⟨l, 0, by simp, by simp, by simp, by simp; omega, fun z hz => ?_, s0, s1, Int.le_refl _, Int.le_refl _, hl⟩
    rcases List.mem_append.mp hz with h | h
    · exact bits_le (hab z h) (by decide)
    · rw [List.mem_singleton.mp h]; exact hlast
end G

/-! The engine, part 16: texts of data. -/
namespace G
open PySem
open Builtin.Int (intBits)
theorem bits_10 {m : Nat} (h : m < 2 ^ 1900) : (m : Int) < 10 ^ 590 := by
  have h1 : (2 : Nat) ^ 1900 < 10 ^ 590 := by decide +kernel
  have h2 : m < 10 ^ 590 := Nat.lt_trans h h1
  have h3 : ((m : Nat) : Int) < ((10 ^ 590 : Nat) : Int) := Int.ofNat_lt.mpr h2
  rw [Int.natCast_pow] at h3
  exact h3
theorem int_short {i : Int} (h : intBits i ≤ 1900) : (PyData.shown (.int i)).length ≤ 600 := by
  have hn := bits_10 (bits_iff.mp h)
  show (Str.ofString (toString i)).length ≤ 600
  by_cases h0 : 0 ≤ i
  · rw [Int.natAbs_of_nonneg h0] at hn
    exact Nat.le_trans (PyProof.Rows.toString_length_le h0 (k := 590) (by decide) hn) (by decide)
  · obtain ⟨m, rfl⟩ : ∃ m, i = Int.negSucc m := by
      cases i with
      | ofNat n => exact absurd (Int.natCast_nonneg n) h0
      | negSucc m => exact ⟨m, rfl⟩
    have e : toString (Int.negSucc m) = "-" ++ toString ((m + 1 : Nat) : Int) := rfl
    rw [e, PyProof.Rows.ofString_length, String.toList_append, List.length_append]
    have h2 : (Str.ofString (toString ((m + 1 : Nat) : Int))).length ≤ 590 := PyProof.Rows.toString_length_le (Int.natCast_nonneg _) (by decide) hn
    rw [PyProof.Rows.ofString_length] at h2
    have h3 : ("-" : String).toList.length = 1 := by decide
    omega
/-- data whose text is short -/
def Gd (p : PyData) : Prop := p.showable = true ∧ p.leavesShort 600 = true ∧ p.canLay0 = true
theorem gd_int {i : Int} (h : intBits i ≤ 1900) : Gd (.int i) := by
  refine ⟨?_, ?_, by simp [PyData.canLay0]⟩
  · have hn := bits_iff.mp h
    simp only [PyData.showable, decide_eq_true_eq]
    by_cases h0 : i.natAbs = 0
    · rw [h0]; decide
    · have := (Nat.log2_lt h0).mpr hn
      omega
  · simp only [PyData.leavesShort, decide_eq_true_eq]
    exact int_short h
theorem gd_non : Gd .none := ⟨rfl, rfl, by simp [PyData.canLay0]⟩
theorem gd_bl {b : Bool} : Gd (.bool b) := ⟨rfl, rfl, by simp [PyData.canLay0]⟩
theorem gd_all : ∀ {ps : List PyData}, (∀ p ∈ ps, Gd p) → PyData.showableAll ps = true ∧ PyData.leavesShortAll 600 ps = true ∧ PyData.canLayAll0 ps = true
  | [], _ => by simp [PyData.showableAll, PyData.leavesShortAll, PyData.canLayAll0]
  | p :: ps, h => by
    obtain ⟨a1, a2, a3⟩ := h p List.mem_cons_self
    obtain ⟨b1, b2, b3⟩ := gd_all fun q hq => h q (List.mem_cons_of_mem _ hq)
    simp only [PyData.showableAll, PyData.leavesShortAll, PyData.canLayAll0, a1, a2, a3, b1, b2, b3, Bool.and_self, and_self]
theorem gd_tup {ps : List PyData} (h : ∀ p ∈ ps, Gd p) : Gd (.tuple ps) := by
  obtain ⟨a, b, c⟩ := gd_all h
  exact ⟨by simpa only [PyData.showable] using a, by simpa only [PyData.leavesShort] using b, by simpa only [PyData.canLay0] using c⟩
theorem gd_lst {ps : List PyData} (h : ∀ p ∈ ps, Gd p) : Gd (.list ps) := by
  obtain ⟨a, b, c⟩ := gd_all h
  exact ⟨by simpa only [PyData.showable] using a, by simpa only [PyData.leavesShort] using b, by simpa only [PyData.canLay0] using c⟩
theorem repr_ok {S : Sto} {d : D} {p : PyData} (h : toPD S 60 d = some p) (g : Gd p) (hb : p.bulk ≤ 20000) : bltD .repr [d] S = .ok (.str p.shown) S := by
  have hl := PyData.shown_le_bulk 600 (by decide) p g.2.1
  have : p.shown.length ≤ 16777216 := by
    have : (600 + 2) * p.bulk ≤ 602 * 20000 := Nat.mul_le_mul (Nat.le_refl _) hb
    omega
  simp only [bltD, h, g.1, Bool.true_and]
  rw [if_pos (decide_eq_true (by rw [lineN_val]; exact this))]
def f_like : Fd := ⟨"_law_like", ["got", "due"], ["got", "due"], (.cons (.ret (.cmp .eq (.blt .repr (.cons (.v 0) .nil)) (.blt .repr (.cons (.v 1) .nil)))) .nil)⟩
theorem like_ok {F : List Fd} {gl : Nat → Option D} {wf k i : Nat} {S : Sto} {d e : D} {p : PyData} (hF : F[i]? = some f_like) (h : toPD S 60 d = some p) (h2 : toPD S 60 e = some p) (g : Gd p) (hb : p.bulk ≤ 20000) :
    callF F gl wf (k + 1) i [d, e] S = .ok (.bl true) S := by
  rw [callF_at hF rfl]
  have e1 := repr_ok h g hb
  have e2 := repr_ok h2 g hb
  simp [f_like, start, e1, e2, cmpD, eqR, eqD, tidy_same]
end G

namespace K08
open PySem G
open Builtin.Int (intBits)
def f_joined : Fd := ⟨"joined", ["one", "other"], ["one", "other", "found", "start", "total"],
  (.cons (.par [2, 3] (.cons (.blt .list (.cons (.v 0) .nil)) (.cons (.k (.int 0)) .nil))) (.cons (.whl (.and (.cons (.cmp .lt (.v 3) (.blt .len (.cons (.v 1) .nil))) (.cons (.cmp .ne (.v 2) (.lst .nil)) (.cons (.cmp .eq (.ix (.ix (.v 2) (.neg (.k (.int 1)))) (.k (.int 0))) (.ix (.ix (.v 1) (.v 3)) (.k (.int 0)))) .nil)))) (.cons (.asg (.n 4) (.bin .add (.ix (.met .pop (.v 2) .nil) (.k (.int 1))) (.ix (.ix (.v 1) (.v 3)) (.k (.int 1))))) (.cons (.asg (.n 3) (.bin .add (.v 3) (.k (.int 1)))) (.cons (.ite (.cmp .ne (.v 4) (.k (.int 0))) (.cons (.ex (.met .app (.v 2) (.cons (.tup (.cons (.ix (.ix (.v 1) (.bin .sub (.v 3) (.k (.int 1)))) (.k (.int 0))) (.cons (.v 4) .nil))) .nil))) (.cons .brk .nil)) .nil) .nil)))) (.cons (.ret (.bin .add (.blt .tuple (.cons (.v 2) .nil)) (.sl (.v 1) (.some (.v 3)) .none))) .nil)))⟩
def f_moved : Fd := ⟨"moved", ["row", "shift"], ["row", "shift", "p", "q", "exponent"],
  (.cons (.ret (.blt .tuple (.cons (.lc [4, 2, 3] (.t [(.t [(.n 2), (.n 3)]), (.n 4)]) (.of (.v 0)) .none (.tup (.cons (.tup (.cons (.bin .sub (.v 2) (.ix (.v 1) (.k (.int 0)))) (.cons (.bin .sub (.v 3) (.ix (.v 1) (.k (.int 1)))) .nil))) (.cons (.v 4) .nil)))) .nil))) .nil)⟩
def f_base_times : Fd := ⟨"base_times", ["one", "other"], ["one", "other", "row", "shift", "more", "far"],
  (.cons (.asg (.t [(.t [(.n 2), (.n 3)]), (.t [(.n 4), (.n 5)])]) (.tup (.cons (.v 0) (.cons (.v 1) .nil)))) (.cons (.ret (.tup (.cons (.call 0 (.cons (.v 2) (.cons (.call 1 (.cons (.v 4) (.cons (.v 3) .nil))) .nil))) (.cons (.tup (.cons (.bin .add (.ix (.v 3) (.k (.int 0))) (.ix (.v 5) (.k (.int 0)))) (.cons (.bin .add (.ix (.v 3) (.k (.int 1))) (.ix (.v 5) (.k (.int 1)))) .nil))) .nil)))) .nil))⟩
def f_place_within : Fd := ⟨"place_within", ["side", "place"], ["side", "place", "n1", "n2", "p", "q", "u", "v"],
  (.cons (.asg (.t [(.n 2), (.n 3), (.t [(.n 4), (.n 5)])]) (.v 0)) (.cons (.par [6, 7] (.cons (.bin .sub (.ix (.v 1) (.k (.int 0))) (.v 4)) (.cons (.bin .sub (.ix (.v 1) (.k (.int 1))) (.v 5)) .nil))) (.cons (.ret (.ite (.and (.cons (.cmp .eq (.bin .mod (.v 6) (.v 2)) (.k (.int 0))) (.cons (.cmp .eq (.bin .mod (.v 7) (.v 3)) (.k (.int 0))) .nil))) (.tup (.cons (.bin .fdiv (.v 6) (.v 2)) (.cons (.bin .fdiv (.v 7) (.v 3)) .nil))) (.k .non))) .nil)))⟩
def f_longest_suffix : Fd := ⟨"longest_suffix", ["side", "element"], ["side", "element", "row", "shift", "count"],
  (.cons (.asg (.t [(.n 2), (.n 3)]) (.v 1)) (.cons (.asg (.n 4) (.blt .len (.cons (.v 2) .nil))) (.cons (.whl (.and (.cons (.cmp .gt (.v 4) (.k (.int 0))) (.cons (.cmp .isn (.call 3 (.cons (.v 0) (.cons (.ix (.ix (.v 2) (.bin .sub (.v 4) (.k (.int 1)))) (.k (.int 0))) .nil))) (.k .non)) .nil))) (.cons (.asg (.n 4) (.bin .sub (.v 4) (.k (.int 1)))) .nil)) (.cons (.ret (.tup (.cons (.sl (.v 2) .none (.some (.v 4))) (.cons (.tup (.cons (.sl (.v 2) (.some (.v 4)) .none) (.cons (.v 3) .nil))) .nil)))) .nil))))⟩
def f__law_begun : Fd := ⟨"_law_begun", ["script", "k"], ["script", "k", "cells", "great", "seed", "cell"],
  (.cons (.asg (.n 2) (.bin .add (.sl (.v 0) (.some (.v 1)) .none) (.sl (.v 0) .none (.some (.v 1))))) (.cons (.asg (.n 3) (.lc [5] (.n 5) (.of (.v 2)) (.some (.cmp .ge (.v 5) (.bin .pow (.k (.int 10)) (.k (.int 18))))) (.v 5))) (.cons (.asg (.n 4) (.bin .add (.k (.int 71)) (.v 1))) (.cons (.for_ (.n 5) (.of (.v 2)) (.cons (.asg (.n 4) (.bin .mod (.blt .int (.cons (.bin .add (.bin .mul (.v 4) (.k (.int 48271))) (.v 5)) .nil)) (.k (.int 2147483647)))) .nil)) (.cons (.ret (.dict ["left", "seed", "cells", "spot"] (.cons (.ite (.and (.cons (.cmp .ne (.v 3) (.lst .nil)) (.cons (.cmp .lt (.v 1) (.blt .len (.cons (.v 2) .nil))) .nil))) (.ix (.v 3) (.k (.int 0))) (.k (.int 0))) (.cons (.v 4) (.cons (.bin .add (.v 2) (.lst (.cons (.bin .add (.bin .mul (.k (.int 53)) (.v 1)) (.k (.int 11))) .nil))) (.cons (.k (.int 0)) .nil)))))) .nil)))))⟩
def f__law_draw : Fd := ⟨"_law_draw", ["m", "bound"], ["m", "bound", "spot", "cells", "extra", "cell", "blend", "found"],
  (.cons (.ite (.cmp .gt (.ix (.v 0) (.k (.str "left"))) (.k (.int 0))) (.cons (.asg (.n 7) (.bin .mod (.blt .int (.cons (.ix (.v 0) (.k (.str "left"))) .nil)) (.v 1))) (.cons (.put (.v 0) (.k (.str "left")) (.bin .fdiv (.ix (.v 0) (.k (.str "left"))) (.v 1))) (.cons (.ret (.v 7)) .nil))) .nil) (.cons (.asg (.n 2) (.ix (.v 0) (.k (.str "spot")))) (.cons (.put (.v 0) (.k (.str "spot")) (.bin .add (.v 2) (.k (.int 1)))) (.cons (.par [3, 4] (.cons (.ix (.v 0) (.k (.str "cells"))) (.cons (.bin .add (.ix (.v 0) (.k (.str "seed"))) (.bin .mul (.bin .mul (.k (.int 40503)) (.v 2)) (.v 2))) .nil))) (.cons (.asg (.n 5) (.ix (.v 3) (.bin .mod (.blt .int (.cons (.v 2) .nil)) (.blt .len (.cons (.v 3) .nil))))) (.cons (.asg (.n 6) (.bin .mod (.blt .int (.cons (.bin .add (.bin .mul (.v 5) (.bin .add (.bin .mul (.k (.int 2)) (.v 2)) (.k (.int 3)))) (.v 4)) .nil)) (.k (.int 2147483647)))) (.cons (.asg (.n 6) (.bin .mod (.blt .int (.cons (.bin .add (.bin .add (.bin .mul (.v 6) (.v 6)) (.bin .mul (.k (.int 69621)) (.v 2))) (.ix (.v 0) (.k (.str "seed")))) .nil)) (.k (.int 2147483629)))) (.cons (.asg (.n 6) (.bin .fdiv (.bin .mod (.blt .int (.cons (.bin .add (.bin .mul (.v 6) (.k (.int 48271))) (.v 2)) .nil)) (.k (.int 2147483647))) (.k (.int 11)))) (.cons (.ite (.cmp .gt (.v 1) (.bin .pow (.k (.int 10)) (.k (.int 6)))) (.cons (.ret (.bin .mod (.blt .int (.cons (.bin .add (.bin .add (.bin .mul (.bin .mul (.v 6) (.k (.int 2147483647))) (.k (.int 2147483647))) (.bin .mul (.v 6) (.v 6))) (.v 2)) .nil)) (.v 1))) .nil) .nil) (.cons (.ret (.bin .mod (.blt .int (.cons (.v 6) .nil)) (.v 1))) .nil))))))))))⟩
def f__law_of : Fd := ⟨"_law_of", ["m", "some"], ["m", "some"],
  (.cons (.ret (.ix (.v 1) (.call 6 (.cons (.v 0) (.cons (.blt .len (.cons (.v 1) .nil)) .nil))))) .nil)⟩
def f__law_like : Fd := ⟨"_law_like", ["got", "due"], ["got", "due"],
  (.cons (.ret (.cmp .eq (.blt .repr (.cons (.v 0) .nil)) (.blt .repr (.cons (.v 1) .nil)))) .nil)⟩
def f__law_side : Fd := ⟨"_law_side", ["m"], ["m", "base", "some", "n1", "n2"],
  (.cons (.asg (.n 1) (.bin .add (.k (.int 2)) (.call 6 (.cons (.v 0) (.cons (.k (.int 5)) .nil))))) (.cons (.asg (.n 2) (.lst (.cons (.k (.int 1)) (.cons (.v 1) (.cons (.v 1) (.cons (.bin .mul (.v 1) (.v 1)) (.cons (.bin .pow (.v 1) (.k (.int 3))) (.cons (.bin .add (.k (.int 1)) (.call 6 (.cons (.v 0) (.cons (.k (.int 12)) .nil)))) (.cons (.bin .add (.k (.int 1)) (.call 6 (.cons (.v 0) (.cons (.bin .pow (.k (.int 10)) (.k (.int 40))) .nil)))) .nil))))))))) (.cons (.par [3, 4] (.cons (.call 7 (.cons (.v 0) (.cons (.v 2) .nil))) (.cons (.call 7 (.cons (.v 0) (.cons (.v 2) .nil))) .nil))) (.cons (.ret (.tup (.cons (.v 3) (.cons (.v 4) (.cons (.tup (.cons (.call 7 (.cons (.v 0) (.cons (.lst (.cons (.k (.int 0)) (.cons (.bin .sub (.v 3) (.k (.int 1))) (.cons (.call 6 (.cons (.v 0) (.cons (.v 3) .nil))) .nil)))) .nil))) (.cons (.call 7 (.cons (.v 0) (.cons (.lst (.cons (.k (.int 0)) (.cons (.bin .sub (.v 4) (.k (.int 1))) (.cons (.call 6 (.cons (.v 0) (.cons (.v 4) .nil))) .nil)))) .nil))) .nil))) .nil))))) .nil))))⟩
def f__law_number : Fd := ⟨"_law_number", ["m"], ["m", "wide"],
  (.cons (.asg (.n 1) (.call 7 (.cons (.v 0) (.cons (.lst (.cons (.k (.int 1)) (.cons (.k (.int 2)) (.cons (.k (.int 2)) (.cons (.k (.int 3)) (.cons (.k (.int 9)) (.cons (.bin .pow (.k (.int 10)) (.k (.int 20))) (.cons (.bin .mul (.bin .mul (.bin .mul (.bin .pow (.k (.int 10)) (.k (.int 60))) (.bin .pow (.k (.int 10)) (.k (.int 60)))) (.bin .pow (.k (.int 10)) (.k (.int 60)))) (.bin .pow (.k (.int 10)) (.k (.int 60)))) .nil)))))))) .nil)))) (.cons (.ret (.bin .sub (.call 6 (.cons (.v 0) (.cons (.bin .add (.bin .mul (.k (.int 2)) (.v 1)) (.k (.int 1))) .nil))) (.v 1))) .nil))⟩
def f__law_exponent : Fd := ⟨"_law_exponent", ["m"], ["m", "e"],
  (.cons (.asg (.n 1) (.bin .add (.k (.int 1)) (.call 6 (.cons (.v 0) (.cons (.call 7 (.cons (.v 0) (.cons (.lst (.cons (.k (.int 2)) (.cons (.k (.int 2)) (.cons (.k (.int 2)) (.cons (.k (.int 9)) (.cons (.bin .pow (.k (.int 10)) (.k (.int 30))) .nil)))))) .nil))) .nil))))) (.cons (.ret (.ite (.cmp .eq (.call 6 (.cons (.v 0) (.cons (.k (.int 2)) .nil))) (.k (.int 0))) (.neg (.v 1)) (.v 1))) .nil))⟩
def f__law_place_of : Fd := ⟨"_law_place_of", ["m", "side"], ["m", "side", "u", "v"],
  (.cons (.par [2, 3] (.cons (.call 10 (.cons (.v 0) .nil)) (.cons (.call 10 (.cons (.v 0) .nil)) .nil))) (.cons (.ret (.tup (.cons (.bin .add (.ix (.ix (.v 1) (.k (.int 2))) (.k (.int 0))) (.bin .mul (.ix (.v 1) (.k (.int 0))) (.v 2))) (.cons (.bin .add (.ix (.ix (.v 1) (.k (.int 2))) (.k (.int 1))) (.bin .mul (.ix (.v 1) (.k (.int 1))) (.v 3))) .nil)))) .nil))⟩
def f__law_near : Fd := ⟨"_law_near", ["m", "side"], ["m", "side", "p", "q", "word"],
  (.cons (.asg (.t [(.n 2), (.n 3)]) (.call 12 (.cons (.v 0) (.cons (.v 1) .nil)))) (.cons (.asg (.n 4) (.call 6 (.cons (.v 0) (.cons (.k (.int 5)) .nil)))) (.cons (.ite (.cmp .eq (.v 4) (.k (.int 0))) (.cons (.ret (.tup (.cons (.bin .add (.v 2) (.call 7 (.cons (.v 0) (.cons (.lst (.cons (.k (.int 1)) (.cons (.neg (.k (.int 1))) (.cons (.bin .fdiv (.ix (.v 1) (.k (.int 0))) (.k (.int 2))) (.cons (.ix (.v 1) (.k (.int 1))) .nil))))) .nil)))) (.cons (.v 3) .nil)))) .nil) .nil) (.cons (.ite (.cmp .eq (.v 4) (.k (.int 1))) (.cons (.ret (.tup (.cons (.v 2) (.cons (.bin .add (.v 3) (.call 7 (.cons (.v 0) (.cons (.lst (.cons (.k (.int 1)) (.cons (.neg (.k (.int 1))) (.cons (.bin .fdiv (.ix (.v 1) (.k (.int 1))) (.k (.int 2))) (.cons (.ix (.v 1) (.k (.int 0))) .nil))))) .nil)))) .nil)))) .nil) .nil) (.cons (.ret (.ite (.cmp .eq (.v 4) (.k (.int 2))) (.tup (.cons (.v 3) (.cons (.v 2) .nil))) (.tup (.cons (.v 2) (.cons (.v 3) .nil))))) .nil)))))⟩
def f__law_row : Fd := ⟨"_law_row", ["m", "side", "many", "some"], ["m", "side", "many", "some", "row", "step", "place"],
  (.cons (.asg (.n 4) (.lst .nil)) (.cons (.for_ (.n 5) (.rng1 (.v 2)) (.cons (.asg (.n 6) (.ite (.and (.cons (.cmp .ne (.v 3) (.lst .nil)) (.cons (.cmp .eq (.call 6 (.cons (.v 0) (.cons (.k (.int 4)) .nil))) (.k (.int 0))) .nil))) (.call 7 (.cons (.v 0) (.cons (.v 3) .nil))) (.call 13 (.cons (.v 0) (.cons (.v 1) .nil))))) (.cons (.ite (.or (.cons (.cmp .eq (.v 4) (.lst .nil)) (.cons (.cmp .ne (.ix (.ix (.v 4) (.neg (.k (.int 1)))) (.k (.int 0))) (.v 6)) .nil))) (.cons (.ex (.met .app (.v 4) (.cons (.tup (.cons (.v 6) (.cons (.call 11 (.cons (.v 0) .nil)) .nil))) .nil))) .nil) .nil) .nil))) (.cons (.ret (.blt .tuple (.cons (.v 4) .nil))) .nil)))⟩
def f__law_is_of : Fd := ⟨"_law_is_of", ["side", "place"], ["side", "place"],
  (.cons (.ret (.and (.cons (.cmp .eq (.bin .mod (.blt .int (.cons (.bin .sub (.ix (.v 1) (.k (.int 0))) (.ix (.ix (.v 0) (.k (.int 2))) (.k (.int 0)))) .nil)) (.ix (.v 0) (.k (.int 0)))) (.k (.int 0))) (.cons (.cmp .eq (.bin .mod (.blt .int (.cons (.bin .sub (.ix (.v 1) (.k (.int 1))) (.ix (.ix (.v 0) (.k (.int 2))) (.k (.int 1)))) .nil)) (.ix (.v 0) (.k (.int 1)))) (.k (.int 0))) .nil)))) .nil)⟩
def f__law_times : Fd := ⟨"_law_times", ["one", "other"], ["one", "other", "p", "q", "row", "place", "e", "here", "total"],
  (.cons (.asg (.t [(.n 2), (.n 3)]) (.ix (.v 0) (.k (.int 1)))) (.cons (.asg (.n 4) (.blt .list (.cons (.ix (.v 0) (.k (.int 0))) .nil))) (.cons (.for_ (.t [(.n 5), (.n 6)]) (.of (.ix (.v 1) (.k (.int 0)))) (.cons (.par [7, 8] (.cons (.tup (.cons (.bin .sub (.ix (.v 5) (.k (.int 0))) (.v 2)) (.cons (.bin .sub (.ix (.v 5) (.k (.int 1))) (.v 3)) .nil))) (.cons (.v 6) .nil))) (.cons (.ite (.and (.cons (.cmp .ne (.v 4) (.lst .nil)) (.cons (.cmp .eq (.ix (.ix (.v 4) (.neg (.k (.int 1)))) (.k (.int 0))) (.v 7)) .nil))) (.cons (.asg (.n 8) (.bin .add (.ix (.met .pop (.v 4) .nil) (.k (.int 1))) (.v 6))) .nil) .nil) (.cons (.ite (.cmp .ne (.v 8) (.k (.int 0))) (.cons (.ex (.met .app (.v 4) (.cons (.tup (.cons (.v 7) (.cons (.v 8) .nil))) .nil))) .nil) .nil) .nil)))) (.cons (.ret (.tup (.cons (.blt .tuple (.cons (.v 4) .nil)) (.cons (.tup (.cons (.bin .add (.v 2) (.ix (.ix (.v 1) (.k (.int 1))) (.k (.int 0)))) (.cons (.bin .add (.v 3) (.ix (.ix (.v 1) (.k (.int 1))) (.k (.int 1)))) .nil))) .nil)))) .nil))))⟩
def f__law_inside : Fd := ⟨"_law_inside", ["m", "side", "many"], ["m", "side", "many", "row", "step", "place"],
  (.cons (.asg (.n 3) (.lst .nil)) (.cons (.for_ (.n 4) (.rng1 (.v 2)) (.cons (.asg (.n 5) (.call 12 (.cons (.v 0) (.cons (.v 1) .nil)))) (.cons (.ite (.or (.cons (.cmp .eq (.v 3) (.lst .nil)) (.cons (.cmp .ne (.ix (.ix (.v 3) (.neg (.k (.int 1)))) (.k (.int 0))) (.v 5)) .nil))) (.cons (.ex (.met .app (.v 3) (.cons (.tup (.cons (.v 5) (.cons (.call 11 (.cons (.v 0) .nil)) .nil))) .nil))) .nil) .nil) .nil))) (.cons (.ret (.tup (.cons (.blt .tuple (.cons (.v 3) .nil)) (.cons (.tup (.cons (.bin .mul (.ix (.v 1) (.k (.int 0))) (.call 10 (.cons (.v 0) .nil))) (.cons (.bin .mul (.ix (.v 1) (.k (.int 1))) (.call 10 (.cons (.v 0) .nil))) .nil))) .nil)))) .nil)))⟩
def f__law_cut : Fd := ⟨"_law_cut", ["side", "element"], ["side", "element", "row", "at", "step"],
  (.cons (.asg (.n 2) (.ix (.v 1) (.k (.int 0)))) (.cons (.asg (.n 3) (.blt .len (.cons (.v 2) .nil))) (.cons (.for_ (.n 4) (.rng1 (.blt .len (.cons (.v 2) .nil))) (.cons (.ite (.not (.call 15 (.cons (.v 0) (.cons (.ix (.ix (.v 2) (.bin .sub (.v 3) (.k (.int 1)))) (.k (.int 0))) .nil)))) (.cons .brk .nil) .nil) (.cons (.asg (.n 3) (.bin .sub (.v 3) (.k (.int 1)))) .nil))) (.cons (.ret (.tup (.cons (.sl (.v 2) .none (.some (.v 3))) (.cons (.tup (.cons (.sl (.v 2) (.some (.v 3)) .none) (.cons (.ix (.v 1) (.k (.int 1))) .nil))) .nil)))) .nil))))⟩
def f__law_mixed : Fd := ⟨"_law_mixed", ["m", "side", "odd"], ["m", "side", "odd", "row", "step", "place"],
  (.cons (.asg (.n 3) (.lst .nil)) (.cons (.for_ (.n 4) (.rng1 (.call 7 (.cons (.v 0) (.cons (.lst (.cons (.k (.int 0)) (.cons (.k (.int 1)) (.cons (.k (.int 2)) (.cons (.k (.int 4)) .nil))))) .nil)))) (.cons (.asg (.n 5) (.ite (.cmp .eq (.call 6 (.cons (.v 0) (.cons (.k (.int 2)) .nil))) (.k (.int 0))) (.call 12 (.cons (.v 0) (.cons (.v 1) .nil))) (.call 13 (.cons (.v 0) (.cons (.v 1) .nil))))) (.cons (.ite (.and (.cons (.cmp .eq (.bin .mod (.blt .int (.cons (.bin .add (.bin .add (.ix (.v 5) (.k (.int 0))) (.ix (.v 5) (.k (.int 1)))) (.v 2)) .nil)) (.k (.int 2))) (.k (.int 0))) (.cons (.or (.cons (.cmp .eq (.v 3) (.lst .nil)) (.cons (.cmp .ne (.ix (.ix (.v 3) (.neg (.k (.int 1)))) (.k (.int 0))) (.v 5)) .nil))) .nil))) (.cons (.ex (.met .app (.v 3) (.cons (.tup (.cons (.v 5) (.cons (.call 11 (.cons (.v 0) .nil)) .nil))) .nil))) .nil) .nil) .nil))) (.cons (.ret (.blt .tuple (.cons (.v 3) .nil))) .nil)))⟩
def f__law_is_odd : Fd := ⟨"_law_is_odd", ["row", "odd"], ["row", "odd", "place", "e"],
  (.cons (.ret (.cmp .eq (.lc [2, 3] (.t [(.n 2), (.n 3)]) (.of (.v 0)) (.some (.cmp .ne (.bin .mod (.blt .int (.cons (.bin .add (.bin .add (.ix (.v 2) (.k (.int 0))) (.ix (.v 2) (.k (.int 1)))) (.v 1)) .nil)) (.k (.int 2))) (.k (.int 0)))) (.v 2)) (.lst .nil))) .nil)⟩
def f__law_cut_right : Fd := ⟨"_law_cut_right", ["side", "element"], ["side", "element", "got"],
  (.cons (.asg (.n 2) (.call 4 (.cons (.v 0) (.cons (.v 1) .nil)))) (.cons (.ite (.not (.call 8 (.cons (.v 2) (.cons (.call 18 (.cons (.v 0) (.cons (.v 1) .nil))) .nil)))) (.cons (.ret (.k (.bl false))) .nil) .nil) (.cons (.ret (.call 8 (.cons (.call 2 (.cons (.tup (.cons (.ix (.v 2) (.k (.int 0))) (.cons (.tup (.cons (.k (.int 0)) (.cons (.k (.int 0)) .nil))) .nil))) (.cons (.ix (.v 2) (.k (.int 1))) .nil))) (.cons (.v 1) .nil)))) .nil)))⟩
def f_law : Fd := ⟨"law", ["script"], ["script", "step", "m", "side", "odd", "end", "row", "shift", "whole", "element", "ahead", "got", "back", "between", "place", "e"],
  (.cons (.for_ (.n 1) (.rng1 (.blt .max2 (.cons (.k (.int 2)) (.cons (.blt .min2 (.cons (.blt .len (.cons (.v 0) .nil)) (.cons (.k (.int 5)) .nil))) .nil)))) (.cons (.asg (.n 2) (.call 5 (.cons (.v 0) (.cons (.v 1) .nil)))) (.cons (.asg (.t [(.n 3), (.n 4)]) (.tup (.cons (.call 9 (.cons (.v 2) .nil)) (.cons (.call 6 (.cons (.v 2) (.cons (.k (.int 2)) .nil))) .nil)))) (.cons (.asg (.n 5) (.call 17 (.cons (.v 2) (.cons (.v 3) (.cons (.call 7 (.cons (.v 2) (.cons (.lst (.cons (.k (.int 0)) (.cons (.k (.int 1)) (.cons (.k (.int 2)) (.cons (.k (.int 4)) .nil))))) .nil))) .nil))))) (.cons (.asg (.n 6) (.call 14 (.cons (.v 2) (.cons (.v 3) (.cons (.call 7 (.cons (.v 2) (.cons (.lst (.cons (.k (.int 0)) (.cons (.k (.int 1)) (.cons (.k (.int 3)) (.cons (.k (.int 6)) .nil))))) .nil))) (.cons (.lc [14, 15] (.t [(.n 14), (.n 15)]) (.of (.ix (.v 5) (.k (.int 0)))) .none (.v 14)) .nil)))))) (.cons (.asg (.n 7) (.tup (.cons (.call 10 (.cons (.v 2) .nil)) (.cons (.call 10 (.cons (.v 2) .nil)) .nil)))) (.cons (.asg (.n 8) (.call 16 (.cons (.tup (.cons (.v 6) (.cons (.tup (.cons (.k (.int 0)) (.cons (.k (.int 0)) .nil))) .nil))) (.cons (.tup (.cons (.ix (.v 5) (.k (.int 0))) (.cons (.v 7) .nil))) .nil)))) (.cons (.for_ (.n 9) (.of (.lst (.cons (.v 8) (.cons (.tup (.cons (.v 6) (.cons (.v 7) .nil))) (.cons (.tup (.cons (.ix (.v 5) (.k (.int 0))) (.cons (.v 7) .nil))) (.cons (.tup (.cons (.rev (.ix (.v 8) (.k (.int 0)))) (.cons (.v 7) .nil))) (.cons (.tup (.cons (.tup .nil) (.cons (.v 7) .nil))) .nil))))))) (.cons (.ite (.not (.call 21 (.cons (.v 3) (.cons (.v 9) .nil)))) (.cons (.ret (.k (.bl false))) .nil) .nil) .nil)) (.cons (.asg (.n 10) (.call 19 (.cons (.v 2) (.cons (.v 3) (.cons (.v 4) .nil))))) (.cons (.asg (.n 9) (.call 16 (.cons (.tup (.cons (.v 10) (.cons (.tup (.cons (.k (.int 0)) (.cons (.k (.int 0)) .nil))) .nil))) (.cons (.v 5) .nil)))) (.cons (.asg (.n 11) (.call 4 (.cons (.v 3) (.cons (.v 9) .nil)))) (.cons (.ite (.or (.cons (.not (.call 21 (.cons (.v 3) (.cons (.v 9) .nil)))) (.cons (.not (.call 20 (.cons (.ix (.v 11) (.k (.int 0))) (.cons (.v 4) .nil)))) .nil))) (.cons (.ret (.k (.bl false))) .nil) .nil) (.cons (.asg (.n 12) (.blt .tuple (.cons (.lc [14, 15] (.t [(.n 14), (.n 15)]) (.of (.rev (.ix (.v 11) (.k (.int 0))))) .none (.tup (.cons (.v 14) (.cons (.neg (.v 15)) .nil)))) .nil))) (.cons (.asg (.n 13) (.call 16 (.cons (.tup (.cons (.v 12) (.cons (.tup (.cons (.k (.int 0)) (.cons (.k (.int 0)) .nil))) .nil))) (.cons (.tup (.cons (.v 10) (.cons (.tup (.cons (.k (.int 0)) (.cons (.k (.int 0)) .nil))) .nil))) .nil)))) (.cons (.ite (.not (.call 20 (.cons (.ix (.v 13) (.k (.int 0))) (.cons (.v 4) .nil)))) (.cons (.ret (.k (.bl false))) .nil) .nil) (.cons (.ite (.cmp .ne (.lc [14, 15] (.t [(.n 14), (.n 15)]) (.of (.ix (.v 13) (.k (.int 0)))) (.some (.not (.call 15 (.cons (.v 3) (.cons (.v 14) .nil))))) (.v 14)) (.lst .nil)) (.cons (.ret (.k (.bl false))) .nil) .nil) .nil)))))))))))))))) (.cons (.ret (.k (.bl true))) .nil))⟩
def Fs : List Fd := [f_joined, f_moved, f_base_times, f_place_within, f_longest_suffix, f__law_begun, f__law_draw, f__law_of, f__law_like, f__law_side, f__law_number, f__law_exponent, f__law_place_of, f__law_near, f__law_row, f__law_is_of, f__law_times, f__law_inside, f__law_cut, f__law_mixed, f__law_is_odd, f__law_cut_right, f_law]
abbrev gl0 : Nat → Option D := fun n => (([] : List (Str × D))[n]?).map (·.2)
abbrev run (k i : Nat) (ds : List D) (S : Sto) : R D := callF Fs gl0 1000000 k i ds S
end K08

namespace K08
open PySem G
open Builtin.Int (intBits)
/-! ### the values -/
abbrev Pl := Int × Int
abbrev Itm := Pl × Int
abbrev Row := List Itm
def eP (p : Pl) : D := .tup [.int p.1, .int p.2]
def eI (x : Itm) : D := .tup [eP x.1, .int x.2]
def eR (r : Row) : D := .tup (r.map eI)
def eE (r : Row) (s : Pl) : D := .tup [eR r, eP s]
structure Side where
  n1 : Int
  n2 : Int
  p : Int
  q : Int
def eS (s : Side) : D := .tup [.int s.n1, .int s.n2, eP (s.p, s.q)]
def ins (s : Side) (a : Pl) : Bool := (a.1 - s.p).fmod s.n1 == 0 && (a.2 - s.q).fmod s.n2 == 0
structure SideOk (s : Side) : Prop where
  a : 0 < s.n1
  b : 0 < s.n2
  ab : intBits s.n1 ≤ 200
  bb : intBits s.n2 ≤ 200
  pb : intBits s.p ≤ 200
  qb : intBits s.q ≤ 200
theorem un_eP {n : Nat} (p : Pl) : (eP p).under n = true := by simp [eP, D.under, underAll]
theorem un_eI {n : Nat} (p : Itm) : (eI p).under n = true := by simp [eI, D.under, underAll, un_eP]
theorem un_eR {n : Nat} (r : Row) : (eR r).under n = true := by
  simp only [eR, D.under, underAll_iff]
  intro d hd
  obtain ⟨x, _, rfl⟩ := List.mem_map.mp hd
  exact un_eI x
theorem un_eE {n : Nat} (r : Row) (s : Pl) : (eE r s).under n = true := by simp [eE, D.under, underAll, un_eP, un_eR]
theorem un_eS {n : Nat} (s : Side) : (eS s).under n = true := by simp [eS, D.under, underAll, un_eP]
@[simp] theorem atI_0 {a : D} {l : List D} : L2.atI (a :: l) 0 = some a := atI_of (Int.le_refl _) rfl
@[simp] theorem atI_1 {a b : D} {l : List D} : L2.atI (a :: b :: l) 1 = some b := atI_of (by decide) rfl
@[simp] theorem atI_2 {a b c : D} {l : List D} : L2.atI (a :: b :: c :: l) 2 = some c := atI_of (by decide) rfl
def pwV (s : Side) (a : Pl) : D := if ins s a then .tup [.int ((a.1 - s.p).fdiv s.n1), .int ((a.2 - s.q).fdiv s.n2)] else .non
theorem pw_ok {k : Nat} {S : Sto} {s : Side} (h : SideOk s) (a : Pl) : run (k + 1) 3 [eS s, eP a] S = .ok (pwV s a) S := by
  show callF Fs gl0 1000000 (k + 1) 3 _ S = _
  have z1 := h.a
  have z2 := h.b
  have y1 : s.n1 ≠ 0 := by omega
  have y2 : s.n2 ≠ 0 := by omega
  have y3 : intBits s.n1 ≤ 9000 := bits_le h.ab (by decide)
  have y4 : intBits s.n2 ≤ 9000 := bits_le h.bb (by decide)
  rw [callF_at (fd := f_place_within) rfl rfl]
  simp [f_place_within, G.start, eS, eP, y1, y2, y3, y4]
  unfold pwV ins
  by_cases h1 : (a.1 - s.p).fmod s.n1 = 0 <;> by_cases h2 : (a.2 - s.q).fmod s.n2 = 0 <;> simp [h1, h2, tidy_same]
theorem isof_ok {k : Nat} {S : Sto} {s : Side} (h : SideOk s) (a : Pl) : run (k + 1) 15 [eS s, eP a] S = .ok (.bl (ins s a)) S := by
  show callF Fs gl0 1000000 (k + 1) 15 _ S = _
  have z1 := h.a
  have z2 := h.b
  have y1 : s.n1 ≠ 0 := by omega
  have y2 : s.n2 ≠ 0 := by omega
  rw [callF_at (fd := f__law_is_of) rfl rfl]
  simp [f__law_is_of, G.start, eS, eP, y1, y2]
  unfold ins
  by_cases h1 : (a.1 - s.p).fmod s.n1 = 0 <;> by_cases h2 : (a.2 - s.q).fmod s.n2 = 0 <;> simp [h1, h2, tidy_same]
/-! ### the longest end inside -/
def cutAt (s : Side) (row : Row) : Nat → Nat
  | 0 => 0
  | c + 1 => match row[c]? with
    | some x => if ins s x.1 then cutAt s row c else c + 1
    | none => c + 1
theorem cutAt_le {s : Side} {row : Row} : ∀ c, cutAt s row c ≤ c
  | 0 => Nat.le_refl _
  | c + 1 => by
    unfold cutAt
    split
    · split
      · exact Nat.le_succ_of_le (cutAt_le c)
      · exact Nat.le_refl _
    · exact Nat.le_refl _
abbrev cutN (s : Side) (row : Row) : Nat := cutAt s row row.length
theorem sIx_nat {n d c : Nat} (h : c ≤ n) : HT.sIx n d (some (c : Int)) = c := by
  rw [HT.sIx_nat]
  exact Nat.min_eq_left h
theorem cutAt_succ {s : Side} {row : Row} {c : Nat} {x : Itm} (hc : row[c]? = some x) : cutAt s row (c + 1) = if ins s x.1 then cutAt s row c else c + 1 := by
  rw [cutAt, hc]
theorem cut_take {α : Type} {l : List α} {c : Nat} (h : c ≤ l.length) : cut l none (some (c : Int)) = l.take c := by
  unfold cut
  rw [sIx_nat h]
  simp [HT.sIx]
theorem cut_drop {α : Type} {l : List α} {c : Nat} (h : c ≤ l.length) : cut l (some (c : Int)) none = l.drop c := by
  unfold cut
  rw [sIx_nat h]
  simp only [HT.sIx]
  rw [List.take_of_length_le (by rw [List.length_drop]; exact Nat.le_refl _)]
theorem ls_ok {k : Nat} {S : Sto} {s : Side} (h : SideOk s) (row : Row) (sh : Pl) (hr : row.length < 1000) (g : Good S) : run (k + 2) 4 [eS s, eE row sh] S = .ok (.tup [eR (row.take (cutN s row)), eE (row.drop (cutN s row)) sh]) S := by
  show callF Fs gl0 1000000 (k + 1 + 1) 4 _ S = _
  rw [callF_at (fd := f_longest_suffix) rfl rfl]
  simp [f_longest_suffix, G.start, eE, eR]
  generalize hw : whlOf _ _ _ _ _ _ = r
  obtain ⟨ρ', S', rfl, rfl, rfl⟩ : ∃ ρ' S', r = .ok .nx ρ' S' ∧ ρ' = [some (eS s), some (eE row sh), some (eR row), some (eP sh), some (.int (cutN s row : Nat))] ∧ S' = S := by
    rw [← hw]
    refine whlOf_ok (fun m ρ S' => m ≤ row.length ∧ cutAt s row m = cutN s row ∧ S' = S ∧ ρ = [some (eS s), some (eE row sh), some (eR row), some (eP sh), some (.int (m : Nat))]) _ (fun m ρ S' hp => ?_) _ row.length _ _ ⟨Nat.le_refl _, rfl, rfl, rfl⟩ (by omega)
    obtain ⟨h1, h2, rfl, rfl⟩ := hp
    cases m with
    | zero =>
      refine .inl ⟨S', ?_, by rw [← h2]; rfl, rfl⟩
      simp
    | succ c =>
      have hc : row[c]? = some row[c] := List.getElem?_eq_getElem (by omega)
      have hat : L2.atI (row.map eI) (c : Int) = some (eI row[c]) := atI_of (by omega) (by simp [hc])
      have hpw := pw_ok (k := k) (S := S') h row[c].1
      have e1 : ((c : Int) + 1 - 1) = c := by omega
      have e2 : (0 : Int) < (c : Int) + 1 := by omega
      rw [cutAt_succ hc] at h2
      cases hi : ins s row[c].1 with
      | false =>
        rw [hi] at h2
        simp only [Bool.false_eq_true, if_false] at h2
        refine .inl ⟨S', ?_, by rw [← h2], rfl⟩
        have : run (k + 1) 3 [eS s, eP row[c].1] S' = .ok .non S' := by rw [hpw]; unfold pwV; rw [hi]; rfl
        have hpw' : callF Fs gl0 1000000 (k + 1) 3 [eS s, eP row[c].1] S' = .ok .non S' := this
        simp [eR, e1, e2, hat, eI, hpw', cmpD, isB]
      | true =>
        rw [hi] at h2
        simp only [if_true] at h2
        refine .inr (.inl ⟨S', _, S', c, ?_, ?_, Nat.lt_succ_self c, by omega, h2, rfl, rfl⟩)
        · have hpw' : callF Fs gl0 1000000 (k + 1) 3 [eS s, eP row[c].1] S' = .ok (.tup [.int ((row[c].1.1 - s.p).fdiv s.n1), .int ((row[c].1.2 - s.q).fdiv s.n2)]) S' := by
            have := hpw
            unfold pwV at this
            rw [hi] at this
            exact this
          simp [eR, e1, e2, hat, eI, hpw']
        · simp
  have hl := cutAt_le (s := s) (row := row) row.length
  simp [eR, eE, cut_map, cut_take hl, cut_drop hl, tidy_same]
theorem range_succ {lo : Int} {n : Nat} : rangeL lo (n + 1) = .int lo :: rangeL (lo + 1) n := by
  unfold rangeL
  rw [List.range_succ_eq_map, List.map_cons, List.map_map]
  congr 1
  · simp
  · refine List.map_congr_left fun a _ => ?_
    simp
    omega
theorem cut_ok {k : Nat} {S : Sto} {s : Side} (h : SideOk s) (row : Row) (sh : Pl) (hr : row.length < 1000) (g : Good S) : run (k + 2) 18 [eS s, eE row sh] S = .ok (.tup [eR (row.take (cutN s row)), eE (row.drop (cutN s row)) sh]) S := by
  show callF Fs gl0 1000000 (k + 1 + 1) 18 _ S = _
  rw [callF_at (fd := f__law_cut) rfl rfl]
  have hr1 : ((row.length : Nat) : Int).natAbs < 2 ^ 62 := by omega
  simp [f__law_cut, G.start, eE, eR, rng1_int hr1]
  generalize hw : forL _ _ _ _ = r
  obtain ⟨ρ', S', rfl, ⟨x, rfl⟩, rfl⟩ : ∃ ρ' S', r = .ok .nx ρ' S' ∧ (∃ x, ρ' = [some (eS s), some (eE row sh), some (eR row), some (.int (cutN s row : Nat)), x]) ∧ S' = S := by
    rw [← hw]
    refine forL_ok (fun ds ρ S' => ∃ (m : Nat) (lo : Int) (x : Option D), ds = rangeL lo m ∧ m ≤ row.length ∧ cutAt s row m = cutN s row ∧ S' = S ∧ ρ = [some (eS s), some (eE row sh), some (eR row), some (.int (m : Nat)), x]) _ (fun d ds ρ S' hp => ?_) (fun ρ S' hp => ?_) _ _ _ ⟨row.length, 0, none, rfl, Nat.le_refl _, rfl, rfl, rfl⟩
    · obtain ⟨m, lo, x, e, h1, h2, rfl, rfl⟩ := hp
      cases m with
      | zero => simp [rangeL] at e
      | succ c =>
        rw [range_succ] at e
        cases e
        have hc : row[c]? = some row[c] := List.getElem?_eq_getElem (by omega)
        have hat : L2.atI (row.map eI) (c : Int) = some (eI row[c]) := atI_of (by omega) (by simp [hc])
        have hpw : callF Fs gl0 1000000 (k + 1) 15 [eS s, eP row[c].1] S' = .ok (.bl (ins s row[c].1)) S' := isof_ok (k := k) (S := S') h row[c].1
        have e1 : ((c : Int) + 1 - 1) = c := by omega
        rw [cutAt_succ hc] at h2
        cases hi : ins s row[c].1 with
        | false =>
          rw [hi] at h2 hpw
          simp only [Bool.false_eq_true, if_false] at h2
          refine .inr ⟨[some (eS s), some (eE row sh), some (eR row), some (.int (c + 1 : Nat)), some (.int lo)], S', ?_, ⟨some (.int lo), by rw [← h2]⟩, rfl⟩
          simp [bodyOf, eR, e1, hat, eI, hpw]
        | true =>
          rw [hi] at h2 hpw
          simp only [if_true] at h2
          refine .inl ⟨_, S', .inl ?_, c, lo + 1, some (.int lo), rfl, by omega, h2, rfl, rfl⟩
          simp [bodyOf, eR, e1, hat, eI, hpw]
    · obtain ⟨m, lo, x, e, h1, h2, rfl, rfl⟩ := hp
      cases m with
      | zero => exact ⟨⟨x, by rw [← h2]; rfl⟩, rfl⟩
      | succ c => rw [range_succ] at e; cases e
  have hl := cutAt_le (s := s) (row := row) row.length
  simp [eR, eE, cut_map, cut_take hl, cut_drop hl, tidy_same]
/-! ### products -/
theorem lcL_map {turn : D → Sto → R (Option D)} {S : Sto} {α : Type} {f g : α → D} (l : List α) (h : ∀ x ∈ l, turn (f x) S = .ok (some (g x)) S) (hz : l.length ≤ lineN) : lcL turn (l.map f) [] S = .ok (l.map g) S := by
  have key : ∀ (l : List α) (acc : List D), (∀ x ∈ l, turn (f x) S = .ok (some (g x)) S) → acc.length + l.length ≤ lineN → lcL turn (l.map f) acc S = .ok (acc ++ l.map g) S := by
    intro l
    induction l with
    | nil => intro acc _ _; simp [lcL]
    | cons x l ih =>
      intro acc h hz
      rw [List.length_cons] at hz
      rw [List.map_cons]
      unfold lcL
      rw [h x List.mem_cons_self]
      simp only
      rw [if_pos (by omega), ih (acc ++ [g x]) (fun y hy => h y (List.mem_cons_of_mem _ hy)) (by rw [List.length_append, List.length_singleton]; omega), List.append_assoc]
      rfl
  have := key l [] h (by simpa using hz)
  simpa using this
theorem moved_ok {k : Nat} {S : Sto} (row : Row) (hr : row.length < 1000) (g : Good S) : run (k + 1) 1 [eR row, eP (0, 0)] S = .ok (eR row) S := by
  show callF Fs gl0 1000000 (k + 1) 1 _ S = _
  rw [callF_at (fd := f_moved) rfl rfl]
  simp [f_moved, G.start, eR]
  generalize hT : turnOf _ _ _ _ _ _ = turn
  have e1 : lcL turn (row.map eI) [] S = .ok (row.map eI) S := lcL_map row (fun x _ => by
    rw [← hT]
    simp [turnOf, wipe, eI, eP]) (by rw [lineN_val]; omega)
  simp [e1]
  exact tidy_back rfl g (un_eR row)
theorem getLast_map {l : List Itm} {x : Itm} (h : l.getLast? = some x) : (l.map eI).getLast? = some (eI x) := by
  rw [List.getLast?_map, h]
  rfl
theorem atI_last {ds : List D} {d : D} (h : ds.getLast? = some d) : L2.atI ds (-1) = some d := by
  have hne : ds ≠ [] := by rintro rfl; cases h
  have hpos : 0 < ds.length := List.length_pos_iff.mpr hne
  unfold L2.atI L2.ixN
  rw [if_neg (by decide), if_pos (by omega)]
  have e : ((ds.length : Int) + -1).toNat = ds.length - 1 := by omega
  rw [List.getLast?_eq_getElem?] at h
  show ds[_]? = some d
  first
    | rw [e]; exact h
    | (have e2 : (-1 + (ds.length : Int)).toNat = ds.length - 1 := by omega
       rw [e2]; exact h)
def pP (p : Pl) : PyData := .tuple [.int p.1, .int p.2]
def pI (x : Itm) : PyData := .tuple [pP x.1, .int x.2]
theorem pd_P {S : Sto} {k : Nat} (p : Pl) : toPD S (k + 2) (eP p) = some (pP p) := pd_tup (pds_cons pd_int (pds_cons pd_int pds_nil))
theorem pd_I {S : Sto} {k : Nat} (x : Itm) : toPD S (k + 3) (eI x) = some (pI x) := pd_tup (pds_cons (pd_P x.1) (pds_cons pd_int pds_nil))
theorem lay_P (p : Pl) : (pP p).canLay0 = true := by simp [pP, PyData.canLay0, PyData.canLayAll0]
theorem lay_I (x : Itm) : (pI x).canLay0 = true := by simp [pI, PyData.canLay0, PyData.canLayAll0, lay_P]
theorem eqD_P {S : Sto} (p q : Pl) : eqD S (eP p) (eP q) = some (decide (p = q)) := by
  have := eqD_tup (S := S) (pd_P (k := 58) p) (pd_P (k := 58) q) (lay_P p) (lay_P q)
  refine this.trans ?_
  obtain ⟨a, b⟩ := p
  obtain ⟨c, d⟩ := q
  simp only [pP, PyData.eqv, PyData.eqvAll, Bool.and_true, Prod.mk.injEq]
  congr 1
  by_cases h1 : a = c <;> by_cases h2 : b = d <;> simp [h1, h2]
theorem eq_P {S : Sto} (p q : Pl) : cmpD .eq (eP p) (eP q) S = .ok (.bl (decide (p = q))) S := by
  simp only [cmpD, eqR, eqD_P]
  simp
theorem ne_P {S : Sto} (p q : Pl) : cmpD .ne (eP p) (eP q) S = .ok (.bl (!decide (p = q))) S := by
  simp only [cmpD, eqR, eqD_P]
  simp
theorem ne_row {S : Sto} {n : Nat} {r : Row} (h : S[n]? = some (.lst (r.map eI))) : cmpD .ne (.ref n) (.ref S.length) (S ++ [.lst []]) = .ok (.bl (!r.isEmpty)) (S ++ [.lst []]) := by
  have hl := (List.getElem?_eq_some_iff.mp h).1
  have := (eq_nil (S := S ++ [.lst []]) (n := n) (m := S.length) (by rw [List.getElem?_append_left hl]; exact h) (by simp) (pds_map (k := 59) (g := pI) r fun x _ => pd_I x) (lay_map r fun x _ => lay_I x)).2
  simpa using this
theorem eq_row {S : Sto} {n : Nat} {r : Row} (h : S[n]? = some (.lst (r.map eI))) : cmpD .eq (.ref n) (.ref S.length) (S ++ [.lst []]) = .ok (.bl (r.isEmpty)) (S ++ [.lst []]) := by
  have hl := (List.getElem?_eq_some_iff.mp h).1
  have := (eq_nil (S := S ++ [.lst []]) (n := n) (m := S.length) (by rw [List.getElem?_append_left hl]; exact h) (by simp) (pds_map (k := 59) (g := pI) r fun x _ => pd_I x) (lay_map r fun x _ => lay_I x)).1
  simpa using this
theorem cut_zero {α : Type} {l : List α} : cut l (some 0) none = l := by
  have := cut_drop (l := l) (c := 0) (Nat.zero_le _)
  simpa using this
/-- two rows that do not meet -/
def Apart (a b : Row) : Prop := ∀ x y, a.getLast? = some x → b.head? = some y → x.1 ≠ y.1
theorem joined_ok {k : Nat} {S : Sto} (a b : Row) (ha : a.length < 1000) (hb : b.length < 1000) (hab : Apart a b) (g : Good S) : run (k + 1) 0 [eR a, eR b] S = .ok (eR (a ++ b)) S := by
  show callF Fs gl0 1000000 (k + 1) 0 _ S = _
  rw [callF_at (fd := f_joined) rfl rfl]
  simp [f_joined, G.start, eR]
  generalize hw : whlOf _ _ _ _ _ _ = r
  obtain ⟨ρ', S', rfl, rfl, X, rfl⟩ : ∃ ρ' S', r = .ok .nx ρ' S' ∧ ρ' = [some (eR a), some (eR b), some (.ref S.length), some (.int 0), none] ∧ ∃ X, S' = S ++ .lst (a.map eI) :: X := by
    rw [← hw]
    refine whlOf_ok (fun m ρ S' => S' = S ++ [.lst (a.map eI)] ∧ ρ = [some (eR a), some (eR b), some (.ref S.length), some (.int 0), none]) _ (fun m ρ S' hp => ?_) _ 0 _ _ ⟨rfl, rfl⟩ (by omega)
    obtain ⟨rfl, rfl⟩ := hp
    cases b with
    | nil => exact .inl ⟨_, by simp [eR], rfl, [], rfl⟩
    | cons y bs =>
      have hne := ne_row (S := S ++ [.lst (a.map eI)]) (n := S.length) (r := a) (by simp)
      cases hla : a.getLast? with
      | none =>
        have : a = [] := List.getLast?_eq_none_iff.mp hla
        subst this
        refine .inl ⟨S ++ [.lst [], .lst []], ?_, rfl, [.lst []], rfl⟩
        simp at hne
        simp [eR, hne]
      | some x =>
        have hn : a.isEmpty = false := by cases a with
          | nil => cases hla
          | cons _ _ => rfl
        have hxy : decide (x.1 = y.1) = false := decide_eq_false (hab x y hla rfl)
        have hat := atI_last (getLast_map hla)
        refine .inl ⟨S ++ [.lst (a.map eI), .lst []], ?_, rfl, [.lst []], rfl⟩
        rw [hn] at hne
        simp at hne
        have h5 : (S ++ [Ob.lst (a.map eI), Ob.lst []])[S.length]? = some (.lst (a.map eI)) := at_0
        have h6 := eq_P (S := S ++ [Ob.lst (a.map eI), Ob.lst []]) x.1 y.1
        rw [hxy] at h6
        simp [eR, hne, ix_lst h5 hat, eI, h6]
  have hz : ∀ S : Sto, binD .add (.tup (a.map eI)) (.tup (b.map eI)) S = .ok (.tup (a.map eI ++ b.map eI)) S := fun S => add_tt (by rw [List.length_map, List.length_map, lineN_val]; omega)
  have h7 : (S ++ Ob.lst (a.map eI) :: X)[S.length]? = some (.lst (a.map eI)) := at_0
  simp [eR, tuple_ref h7, cut_zero, hz, List.map_append]
  have := tidy_back (S := S) (X := .lst (a.map eI) :: X) rfl g (un_eR (a ++ b))
  rw [eR, List.map_append] at this
  exact this
theorem bt_ok {k : Nat} {S : Sto} (a b : Row) (sh : Pl) (ha : a.length < 1000) (hb : b.length < 1000) (hab : Apart a b) (g : Good S) : run (k + 2) 2 [eE a (0, 0), eE b sh] S = .ok (eE (a ++ b) sh) S := by
  show callF Fs gl0 1000000 (k + 1 + 1) 2 _ S = _
  rw [callF_at (fd := f_base_times) rfl rfl]
  have h1 : callF Fs gl0 1000000 (k + 1) 1 [eR b, .tup [.int 0, .int 0]] S = .ok (eR b) S := moved_ok (k := k) b hb g
  have h2 : callF Fs gl0 1000000 (k + 1) 0 [eR a, eR b] S = .ok (eR (a ++ b)) S := joined_ok (k := k) a b ha hb hab g
  simp [f_base_times, G.start, eE, eP, h1, h2, tidy_same]
/-! ### the law's product -/
def mrg (r : Row) (x : Itm) : Row := match r.getLast? with
  | some l => if l.1 = x.1 then (if l.2 + x.2 ≠ 0 then r.dropLast ++ [(x.1, l.2 + x.2)] else r.dropLast) else if x.2 ≠ 0 then r ++ [x] else r
  | none => if x.2 ≠ 0 then r ++ [x] else r
abbrev timesL (a b : Row) : Row := b.foldl mrg a
theorem over_set {S Y : Sto} {o : Ob} : ∃ Z, (S ++ Y).set S.length o = S ++ Z := ⟨Y.set 0 o, by rw [List.set_append_right _ _ (Nat.le_refl _), Nat.sub_self]⟩
theorem mrg_len (r : Row) (x : Itm) : (mrg r x).length ≤ r.length + 1 := by
  unfold mrg
  split
  · split
    · split
      · rw [List.length_append, List.length_dropLast, List.length_singleton]; omega
      · rw [List.length_dropLast]; omega
    · split <;> simp
  · split <;> simp
theorem mrg_some {r : Row} {x l : Itm} (h : r.getLast? = some l) : mrg r x = if l.1 = x.1 then (if l.2 + x.2 ≠ 0 then r.dropLast ++ [(x.1, l.2 + x.2)] else r.dropLast) else if x.2 ≠ 0 then r ++ [x] else r := by
  unfold mrg
  rw [h]
theorem mrg_nil {x : Itm} : mrg [] x = if x.2 ≠ 0 then [x] else [] := by simp [mrg]
theorem mstep {C : Cfg} {S1 : Sto} {n : Nat} {r : Row} {x : Itm} {A B : Option D} {x5 x6 x7 x8 : Option D} (h : S1[n]? = some (.lst (r.map eI))) (hr : r.length < 5000) :
    ∃ t, bodyOf C (.t [.n 5, .n 6]) (fbody (nth f__law_times.body 2)) (eI x) [A, B, some (.int 0), some (.int 0), some (.ref n), x5, x6, x7, x8] S1 =
      .ok .nx [A, B, some (.int 0), some (.int 0), some (.ref n), some (eP x.1), some (.int x.2), some (eP x.1), t] ((S1 ++ [Ob.lst []]).set n (Ob.lst ((mrg r x).map eI))) := by
  have hl : n < S1.length := (List.getElem?_eq_some_iff.mp h).1
  have hne := ne_row h
  have hT : (S1 ++ [Ob.lst []])[n]? = some (.lst (r.map eI)) := by rw [List.getElem?_append_left hl]; exact h
  have hself : (S1 ++ [Ob.lst []]).set n (.lst (r.map eI)) = S1 ++ [Ob.lst []] := by
    obtain ⟨q1, q2⟩ := List.getElem?_eq_some_iff.mp hT
    rw [← q2]
    exact List.set_getElem_self q1
  generalize hTT : S1 ++ [Ob.lst []] = T at *
  have hlT : n < T.length := (List.getElem?_eq_some_iff.mp hT).1
  cases hla : r.getLast? with
  | none =>
    have hr0 : r = [] := List.getLast?_eq_none_iff.mp hla
    subst hr0
    simp at hne hself
    rw [mrg_nil]
    by_cases hx : x.2 = 0
    · refine ⟨some (.int x.2), ?_⟩
      simp [f__law_times, nth, fbody, bodyOf, eI, eP, hTT, hne, hx, hself]
    · refine ⟨some (.int x.2), ?_⟩
      have hap : metD .app (.ref n) [.tup [.tup [.int x.1.1, .int x.1.2], .int x.2]] T = .ok .non (T.set n (.lst ([] ++ [.tup [.tup [.int x.1.1, .int x.1.2], .int x.2]]))) := met_app hT (by simp)
      simp [f__law_times, nth, fbody, bodyOf, eI, eP, hTT, hne, hx, hap, isLst_ref hT]
  | some l =>
    have hn : r.isEmpty = false := by cases r with
      | nil => cases hla
      | cons _ _ => rfl
    rw [hn] at hne
    have hat := ix_lst hT (atI_last (getLast_map hla))
    rw [mrg_some hla]
    have hat' : ixD (.ref n) (.int (-1)) T = .ok (.tup [.tup [.int l.1.1, .int l.1.2], .int l.2]) T := hat
    have h6 : cmpD .eq (.tup [.int l.1.1, .int l.1.2]) (.tup [.int x.1.1, .int x.1.2]) T = .ok (.bl (decide (l.1 = x.1))) T := eq_P l.1 x.1
    have h7 : cmpD .eq (.tup [.int x.1.1, .int x.1.2]) (.tup [.int x.1.1, .int x.1.2]) T = .ok (.bl true) T := by
      have := eq_P (S := T) x.1 x.1
      rw [decide_eq_true rfl] at this
      exact this
    by_cases hlx : l.1 = x.1
    · have hpop : metD .pop (.ref n) [] T = .ok (.tup [.tup [.int l.1.1, .int l.1.2], .int l.2]) (T.set n (.lst (r.map eI).dropLast)) := met_pop hT (getLast_map hla)
      have hT2 : (T.set n (.lst (r.map eI).dropLast))[n]? = some (.lst (r.map eI).dropLast) := List.getElem?_set_self hlT
      by_cases ht : l.2 + x.2 = 0
      · refine ⟨some (.int (l.2 + x.2)), ?_⟩
        simp [f__law_times, nth, fbody, bodyOf, eI, eP, hTT, hne, hat', h7, hlx, hpop, isLst_ref hT, ht]
      · refine ⟨some (.int (l.2 + x.2)), ?_⟩
        have hap : metD .app (.ref n) [.tup [.tup [.int x.1.1, .int x.1.2], .int (l.2 + x.2)]] (T.set n (.lst (r.map eI).dropLast)) = .ok .non ((T.set n (.lst (r.map eI).dropLast)).set n (.lst ((r.map eI).dropLast ++ [.tup [.tup [.int x.1.1, .int x.1.2], .int (l.2 + x.2)]]))) := met_app hT2 (by simp; omega)
        simp [f__law_times, nth, fbody, bodyOf, eI, eP, hTT, hne, hat', h7, hlx, hpop, isLst_ref hT, isLst_ref hT2, ht, hap]
    · by_cases hx : x.2 = 0
      · refine ⟨some (.int x.2), ?_⟩
        simp [f__law_times, nth, fbody, bodyOf, eI, eP, hTT, hne, hat', h6, hlx, hx]
        exact hself.symm
      · refine ⟨some (.int x.2), ?_⟩
        have hap : metD .app (.ref n) [.tup [.tup [.int x.1.1, .int x.1.2], .int x.2]] T = .ok .non (T.set n (.lst (r.map eI ++ [.tup [.tup [.int x.1.1, .int x.1.2], .int x.2]]))) := met_app hT (by simp; omega)
        simp [f__law_times, nth, fbody, bodyOf, eI, eP, hTT, hne, hat', h6, hlx, hx, hap, isLst_ref hT]
theorem times_ok {k : Nat} {S : Sto} (a b : Row) (sh : Pl) (ha : a.length < 1000) (hb : b.length < 1000) (g : Good S) : run (k + 1) 16 [eE a (0, 0), eE b sh] S = .ok (eE (timesL a b) sh) S := by
  show callF Fs gl0 1000000 (k + 1) 16 _ S = _
  rw [callF_at (fd := f__law_times) rfl rfl]
  simp [f__law_times, G.start, eE, eP, eR]
  generalize hw : forL _ _ _ _ = r
  obtain ⟨ρ', S', rfl, Y, rfl, hrow, x5, x6, x7, x8, rfl⟩ : ∃ ρ' S', r = .ok .nx ρ' S' ∧ ∃ Y, S' = S ++ Y ∧ S'[S.length]? = some (.lst ((timesL a b).map eI)) ∧ ∃ x5 x6 x7 x8, ρ' = [some (eE a (0, 0)), some (eE b sh), some (.int 0), some (.int 0), some (.ref S.length), x5, x6, x7, x8] := by
    rw [← hw]
    refine forL_ok (fun ds ρ S1 => ∃ rest r Y, ds = List.map eI rest ∧ rest.foldl mrg r = timesL a b ∧ r.length + rest.length < 2000 ∧ S1 = S ++ Y ∧ S1[S.length]? = some (.lst (r.map eI)) ∧ ∃ x5 x6 x7 x8, ρ = [some (eE a (0, 0)), some (eE b sh), some (.int 0), some (.int 0), some (.ref S.length), x5, x6, x7, x8])
      (fun ρ' S' => ∃ Y, S' = S ++ Y ∧ S'[S.length]? = some (.lst ((timesL a b).map eI)) ∧ ∃ x5 x6 x7 x8, ρ' = [some (eE a (0, 0)), some (eE b sh), some (.int 0), some (.int 0), some (.ref S.length), x5, x6, x7, x8]) (fun d ds ρ S1 hp => ?_) (fun ρ S1 hp => ?_) _ _ _ ⟨b, a, _, rfl, rfl, by omega, rfl, at_0, _, _, _, _, rfl⟩
    · obtain ⟨rest, r, Y, e, h1, h2, h3, h4, x5, x6, x7, x8, rfl⟩ := hp
      cases rest with
      | nil => cases e
      | cons x rest =>
      rw [List.map_cons] at e
      cases e
      simp only [List.length_cons] at h2
      obtain ⟨t, et⟩ := mstep (C := ⟨callF Fs gl0 1000000 k, 1000000, gl0⟩) (x := x) (A := some (eE a (0, 0))) (B := some (eE b sh)) (x5 := x5) (x6 := x6) (x7 := x7) (x8 := x8) h4 (by omega)
      have hlm := mrg_len r x
      subst h3
      obtain ⟨Z, hZ⟩ := over_set (S := S) (Y := Y ++ [Ob.lst []]) (o := Ob.lst ((mrg r x).map eI))
      have hl : S.length < (S ++ Y ++ [Ob.lst []]).length := by
        have := (List.getElem?_eq_some_iff.mp h4).1
        rw [List.length_append]; omega
      refine .inl ⟨_, _, .inl et, rest, mrg r x, Z, rfl, h1, by omega, by rw [List.append_assoc]; exact hZ, List.getElem?_set_self hl, _, _, _, _, rfl⟩
    · obtain ⟨rest, r, Y, e, h1, h2, h3, h4, h5⟩ := hp
      cases rest with
      | nil => exact ⟨Y, h3, by rw [← h1]; exact h4, h5⟩
      | cons _ _ => cases e
  simp [tuple_ref hrow, eE, eP]
  exact tidy_back rfl g (un_eE (timesL a b) sh)
/-! ### is_odd -/
def par (odd : Int) (x : Itm) : Bool := (x.1.1 + x.1.2 + odd).fmod 2 == 0
theorem odd_ok {k : Nat} {S : Sto} (a : Row) (odd : Int) (ha : a.length < 1000) (hp : ∀ x ∈ a, par odd x = true) (g : Good S) : run (k + 1) 20 [eR a, .int odd] S = .ok (.bl true) S := by
  show callF Fs gl0 1000000 (k + 1) 20 _ S = _
  rw [callF_at (fd := f__law_is_odd) rfl rfl]
  simp [f__law_is_odd, G.start, eR]
  generalize hT : turnOf _ _ _ _ _ _ = turn
  have e1 : lcL turn (a.map eI) [] S = .ok ([] ++ (a.map eI).filterMap fun _ => none) S := lcL_pure (g := fun _ => none) _ _ (fun d hd => by
    obtain ⟨x, hx, rfl⟩ := List.mem_map.mp hd
    have := hp x hx
    unfold par at this
    have h0 : (x.1.1 + x.1.2 + odd).fmod 2 = 0 := by simpa using this
    rw [← hT]
    simp [turnOf, wipe, eI, eP, h0]) (by simp; omega)
  have e2 : ((a.map eI).filterMap fun _ => (none : Option D)) = [] := by
    induction a.map eI with
    | nil => rfl
    | cons d ds ih => rw [List.filterMap_cons]; exact ih
  rw [e2] at e1
  have h3 := eq_row (S := S ++ [Ob.lst []]) (n := S.length) (r := []) (by simp)
  simp at h3
  simp [e1, h3]
  exact tidy_back (S := S) (X := [Ob.lst [], Ob.lst []]) rfl g (by simp [D.under])
/-! ### cut and put together again -/
def Red (r : Row) : Prop := ∀ i x y, r[i]? = some x → r[i + 1]? = some y → x.1 ≠ y.1
structure RowB (r : Row) : Prop where
  len : r.length ≤ 60
  p : ∀ x ∈ r, intBits x.1.1 ≤ 1200
  q : ∀ x ∈ r, intBits x.1.2 ≤ 1200
  e : ∀ x ∈ r, intBits x.2 ≤ 1200
structure PlB (a : Pl) : Prop where
  p : intBits a.1 ≤ 1200
  q : intBits a.2 ≤ 1200
theorem Red.apart {r : Row} (h : Red r) (c : Nat) : Apart (r.take c) (r.drop c) := by
  intro x y hx hy
  rw [List.getLast?_eq_getElem?] at hx
  rw [List.head?_drop] at hy
  obtain ⟨h1, h2⟩ := List.getElem?_eq_some_iff.mp hx
  rw [List.length_take] at h1 hx
  have hc : c < r.length := (List.getElem?_eq_some_iff.mp hy).1
  have hm : min c r.length = c := Nat.min_eq_left (Nat.le_of_lt hc)
  rw [hm] at hx h1
  have hc0 : c - 1 + 1 = c := by omega
  rw [List.getElem?_take_of_lt h1] at hx
  exact h (c - 1) x y hx (by rw [hc0]; exact hy)
def pR (r : Row) : PyData := .tuple (r.map pI)
def pE (r : Row) (s : Pl) : PyData := .tuple [pR r, pP s]
theorem pd_R {S : Sto} {k : Nat} (r : Row) : toPD S (k + 4) (eR r) = some (pR r) := pd_tup (pds_map r fun x _ => pd_I x)
theorem pd_E {S : Sto} {k : Nat} (r : Row) (s : Pl) : toPD S (k + 5) (eE r s) = some (pE r s) := pd_tup (pds_cons (pd_R r) (pds_cons (pd_P (k := k + 2) s) pds_nil))
theorem gd_P {p : Pl} (h : PlB p) : Gd (pP p) := gd_tup fun q hq => by
  simp only [List.mem_cons, List.not_mem_nil, or_false] at hq
  rcases hq with rfl | rfl
  · exact gd_int (bits_le h.p (by decide))
  · exact gd_int (bits_le h.q (by decide))
theorem gd_R {r : Row} (h : RowB r) : Gd (pR r) := gd_tup fun q hq => by
  obtain ⟨x, hx, rfl⟩ := List.mem_map.mp hq
  refine gd_tup fun q hq => ?_
  simp only [List.mem_cons, List.not_mem_nil, or_false] at hq
  rcases hq with rfl | rfl
  · exact gd_P ⟨h.p x hx, h.q x hx⟩
  · exact gd_int (bits_le (h.e x hx) (by decide))
theorem gd_E {r : Row} {s : Pl} (h : RowB r) (hs : PlB s) : Gd (pE r s) := gd_tup fun q hq => by
  simp only [List.mem_cons, List.not_mem_nil, or_false] at hq
  rcases hq with rfl | rfl
  · exact gd_R h
  · exact gd_P hs
theorem bulk_rows : ∀ r : Row, PyData.bulkAll (r.map pI) = 5 * r.length
  | [] => rfl
  | x :: r => by
    rw [List.map_cons, List.length_cons]
    simp only [PyData.bulkAll, bulk_rows r, pI, pP, PyData.bulk]
    omega
theorem bulk_R (r : Row) : (pR r).bulk = 5 * r.length := by
  simp only [pR, PyData.bulk, bulk_rows]
theorem bulk_E (r : Row) (s : Pl) : (pE r s).bulk = 5 * r.length + 4 := by
  simp only [pE, PyData.bulk, PyData.bulkAll, bulk_R, pP]
theorem RowB.take {r : Row} (h : RowB r) (c : Nat) : RowB (r.take c) :=
  ⟨by rw [List.length_take]; have := h.len; omega, fun x hx => h.p x (List.mem_of_mem_take hx), fun x hx => h.q x (List.mem_of_mem_take hx), fun x hx => h.e x (List.mem_of_mem_take hx)⟩
theorem RowB.drop {r : Row} (h : RowB r) (c : Nat) : RowB (r.drop c) :=
  ⟨by rw [List.length_drop]; have := h.len; omega, fun x hx => h.p x (List.mem_of_mem_drop hx), fun x hx => h.q x (List.mem_of_mem_drop hx), fun x hx => h.e x (List.mem_of_mem_drop hx)⟩
theorem cr_ok {k : Nat} {S : Sto} {s : Side} (h : SideOk s) {row : Row} {sh : Pl} (hr : RowB row) (hsh : PlB sh) (hred : Red row) (g : Good S) : run (k + 3) 21 [eS s, eE row sh] S = .ok (.bl true) S := by
  show callF Fs gl0 1000000 (k + 2 + 1) 21 _ S = _
  have hlen := hr.len
  have h1 : callF Fs gl0 1000000 (k + 2) 4 [eS s, eE row sh] S = .ok (.tup [eR (row.take (cutN s row)), eE (row.drop (cutN s row)) sh]) S := ls_ok h row sh (by omega) g
  have h2 : callF Fs gl0 1000000 (k + 2) 18 [eS s, eE row sh] S = .ok (.tup [eR (row.take (cutN s row)), eE (row.drop (cutN s row)) sh]) S := cut_ok h row sh (by omega) g
  generalize cutN s row = c at h1 h2
  have hT := hr.take c
  have hD := hr.drop c
  have h3 : callF Fs gl0 1000000 (k + 2) 2 [eE (row.take c) (0, 0), eE (row.drop c) sh] S = .ok (eE row sh) S := by
    have := bt_ok (k := k) (S := S) (row.take c) (row.drop c) sh (by have := hT.len; omega) (by have := hD.len; omega) (hred.apart c) g
    rw [List.take_append_drop] at this
    exact this
  have h4 : callF Fs gl0 1000000 (k + 2) 8 [.tup [eR (row.take c), eE (row.drop c) sh], .tup [eR (row.take c), eE (row.drop c) sh]] S = .ok (.bl true) S :=
    like_ok (k := k + 1) (p := .tuple [pR (row.take c), pE (row.drop c) sh]) rfl (pd_tup (pds_cons (pd_R (k := 55) _) (pds_cons (pd_E (k := 54) _ _) pds_nil))) (pd_tup (pds_cons (pd_R (k := 55) _) (pds_cons (pd_E (k := 54) _ _) pds_nil)))
      (gd_tup fun q hq => by
        simp only [List.mem_cons, List.not_mem_nil, or_false] at hq
        rcases hq with rfl | rfl
        · exact gd_R hT
        · exact gd_E hD hsh) (by
        simp only [PyData.bulk, PyData.bulkAll, bulk_R, bulk_E]
        have := hT.len
        have := hD.len
        omega)
  have h5 : callF Fs gl0 1000000 (k + 2) 8 [eE row sh, eE row sh] S = .ok (.bl true) S :=
    like_ok (k := k + 1) (p := pE row sh) rfl (pd_E (k := 55) _ _) (pd_E (k := 55) _ _) (gd_E hr hsh) (by rw [bulk_E]; omega)
  have h3' : callF Fs gl0 1000000 (k + 2) 2 [.tup [eR (row.take c), .tup [.int 0, .int 0]], eE (row.drop c) sh] S = .ok (eE row sh) S := h3
  rw [callF_at (fd := f__law_cut_right) rfl rfl]
  simp [f__law_cut_right, G.start, h1, h2, h4, h3', h5, tidy_same]
/-! ### the law's drawing -/
theorem ints_under {n : Nat} (zs : List Int) : Ob.under n (.lst (zs.map .int)) = true := by
  simp only [Ob.under, underAll_iff]
  intro d hd
  obtain ⟨z, _, rfl⟩ := List.mem_map.mp hd
  simp [D.under]
theorem ofI {k B : Nat} {M : Mc} {S1 : Sto} (zs : List Int) (g : Good S1) (m : Mach M S1 B) (hB : B < 1000000) (hz : zs ≠ []) (hl : zs.length < 100) :
    ∃ z S'', callF Fs gl0 1000000 (k + 2) 7 [.ref M.n, .ref S1.length] (S1 ++ [.lst (zs.map .int)]) = .ok (.int z) S'' ∧ z ∈ zs ∧ Reach M S1 S'' (B + 1) ∧ S''[S1.length]? = some (.lst (zs.map .int)) ∧ S1.length + 1 = S''.length := by
  have ht : S1.length ≠ M.n := Nat.ne_of_gt m.lt
  obtain ⟨d, S'', e, hd, st⟩ := ofA_ok (F := Fs) (gl := gl0) (wf := 1000000) (k := k) (i := 7) (j := 6) (t := S1.length) (ds := zs.map .int) rfl rfl (g.app (ints_under zs)) (m.wide (X := [.lst (zs.map .int)])) hB (by simp) ht (by simpa using hz) (by simp; omega)
  obtain ⟨z, hz', rfl⟩ := List.mem_map.mp hd
  exact ⟨z, S'', e, hz', ((Reach.refl g m).alloc (ints_under zs)).step st, by rw [st.same _ ht]; simp, by rw [st.len]; simp⟩
theorem dr {k B : Nat} {M : Mc} {S : Sto} (b : Int) (g : Good S) (m : Mach M S B) (hB : B < 1000000) (hb : 0 < b) (hb2 : intBits b ≤ 9000) :
    ∃ r S', callF Fs gl0 1000000 (k + 1) 6 [.ref M.n, .int b] S = .ok (.int r) S' ∧ 0 ≤ r ∧ r < b ∧ Step M S S' (B + 1) := drawA_ok rfl g m hB hb hb2
theorem nat_bits {x : Int} {a : Nat} (h0 : 0 ≤ x) (h : x < 2 ^ a) : intBits x ≤ a := by
  rw [bits_iff]
  have : ((2 ^ a : Nat) : Int) = 2 ^ a := by push_cast; rfl
  omega
theorem lt_bits {x b : Int} {a : Nat} (h0 : 0 ≤ x) (h : x < b) (hb : intBits b ≤ a) : intBits x ≤ a := by
  rw [bits_iff] at hb ⊢
  omega
/-- a number of the law's -/
theorem number_ok {k B : Nat} {M : Mc} {S : Sto} (g : Good S) (m : Mach M S B) (hB : B + 2 < 1000000) :
    ∃ r S', run (k + 3) 10 [.ref M.n] S = .ok (.int r) S' ∧ intBits r ≤ 804 ∧ Step M S S' (B + 2) := by
  obtain ⟨w, S1, e1, hw, r1, _, _⟩ := ofI (k := k) [1, 2, 2, 3, 9, 10 ^ 20, 10 ^ 60 * 10 ^ 60 * 10 ^ 60 * 10 ^ 60] g m (by omega) (by simp) (by decide)
  have w0 : 0 < w ∧ intBits w ≤ 800 := by
    simp only [List.mem_cons, List.not_mem_nil, or_false] at hw
    rcases hw with rfl | rfl | rfl | rfl | rfl | rfl | rfl <;> exact ⟨by decide, by decide +kernel⟩
  have wb : intBits (2 * w) ≤ 802 := bits_le (bits_mul (a := 2) (bits_small (by decide)) w0.2) (by decide)
  have wb1 : intBits (2 * w + 1) ≤ 803 := bits_le (bits_add wb (bits_le (a := 1) (bits_small (by decide)) (by decide))) (by decide)
  obtain ⟨r, S2, e2, r0, rl, st2⟩ := dr (k := k + 1) (2 * w + 1) r1.good r1.mach (by omega) (by omega) (bits_le wb1 (by decide))
  have k1 : bitsOk 2 w = true := bitsOk_of (a := 2) (bits_small (by decide)) w0.2 (by decide)
  have q1 : bitsOk (10 ^ 60) (10 ^ 60) = true := by decide +kernel
  have q2 : bitsOk (10 ^ 60 * 10 ^ 60) (10 ^ 60) = true := by decide +kernel
  have q3 : bitsOk (10 ^ 60 * 10 ^ 60 * 10 ^ 60) (10 ^ 60) = true := by decide +kernel
  have rb : intBits r ≤ 803 := lt_bits r0 rl wb1
  obtain ⟨t1, t2⟩ := (r1.step st2).back (d := .int (r - w)) g m (by simp [D.under])
  refine ⟨r - w, S2.take S.length, ?_, bits_sub rb (bits_le w0.2 (by decide)), t2⟩
  show callF Fs gl0 1000000 (k + 2 + 1) 10 _ S = _
  rw [callF_at (fd := f__law_number) rfl rfl]
  simp only [List.map_cons, List.map_nil] at e1
  simp at e1 q1 q2 q3
  simp [f__law_number, G.start, q1, q2, q3, e1, k1, e2, t1]
theorem exponent_ok {k B : Nat} {M : Mc} {S : Sto} (g : Good S) (m : Mach M S B) (hB : B + 3 < 1000000) :
    ∃ r S', run (k + 3) 11 [.ref M.n] S = .ok (.int r) S' ∧ intBits r ≤ 101 ∧ Step M S S' (B + 3) := by
  obtain ⟨w, S1, e1, hw, r1, _, _⟩ := ofI (k := k) [2, 2, 2, 9, 10 ^ 30] g m (by omega) (by simp) (by decide)
  have w0 : 0 < w ∧ intBits w ≤ 100 := by
    simp only [List.mem_cons, List.not_mem_nil, or_false] at hw
    rcases hw with rfl | rfl | rfl | rfl | rfl <;> exact ⟨by decide, by decide +kernel⟩
  obtain ⟨r, S2, e2, q0, ql, st2⟩ := dr (k := k + 1) w r1.good r1.mach (by omega) w0.1 (bits_le w0.2 (by decide))
  obtain ⟨z, S3, e3, z0, zl, st3⟩ := dr (k := k + 1) 2 st2.good st2.mach (by omega) (by decide) (by decide)
  have rb : intBits (1 + r) ≤ 101 := bits_add (a := 100) (bits_le (a := 1) (bits_small (by decide)) (by decide)) (lt_bits q0 ql w0.2)
  obtain ⟨t1, t2⟩ := ((r1.step st2).step st3).back (d := .int (if z = 0 then -(1 + r) else 1 + r)) g m (by simp [D.under])
  refine ⟨if z = 0 then -(1 + r) else 1 + r, S3.take S.length, ?_, by split; exact bits_neg rb; exact rb, t2⟩
  show callF Fs gl0 1000000 (k + 2 + 1) 11 _ S = _
  rw [callF_at (fd := f__law_exponent) rfl rfl]
  simp only [List.map_cons, List.map_nil] at e1
  simp at e1
  by_cases hz : z = 0
  · simp [hz] at t1
    simp [f__law_exponent, G.start, e1, e2, e3, hz, t1]
  · simp [hz] at t1
    simp [f__law_exponent, G.start, e1, e2, e3, hz, t1]
structure PlIn (s : Side) (a : Pl) : Prop where
  b : intBits a.1 ≤ 1100 ∧ intBits a.2 ≤ 1100
theorem PlIn.plb {s : Side} {a : Pl} (h : PlIn s a) : PlB a := ⟨bits_le h.b.1 (by decide), bits_le h.b.2 (by decide)⟩
theorem ins_mul {s : Side} (h : SideOk s) (u v : Int) : ins s (s.p + s.n1 * u, s.q + s.n2 * v) = true := by
  unfold ins
  have e1 : s.p + s.n1 * u - s.p = s.n1 * u := by omega
  have e2 : s.q + s.n2 * v - s.q = s.n2 * v := by omega
  simp [e1, e2]
theorem place_of_ok {k B : Nat} {M : Mc} {S : Sto} {s : Side} (h : SideOk s) (g : Good S) (m : Mach M S B) (hB : B + 4 < 1000000) :
    ∃ a S', run (k + 4) 12 [.ref M.n, eS s] S = .ok (eP a) S' ∧ (intBits a.1 ≤ 1010 ∧ intBits a.2 ≤ 1010) ∧ ins s a = true ∧ Step M S S' (B + 4) := by
  obtain ⟨u, S1, e1, ub, st1⟩ := number_ok (k := k) g m (by omega)
  obtain ⟨v, S2, e2, vb, st2⟩ := number_ok (k := k) st1.good st1.mach (by omega)
  have e1' : callF Fs gl0 1000000 (k + 3) 10 [.ref M.n] S = .ok (.int u) S1 := e1
  have e2' : callF Fs gl0 1000000 (k + 3) 10 [.ref M.n] S1 = .ok (.int v) S2 := e2
  have k1 : bitsOk s.n1 u = true := bitsOk_of h.ab ub (by decide)
  have k2 : bitsOk s.n2 v = true := bitsOk_of h.bb vb (by decide)
  refine ⟨(s.p + s.n1 * u, s.q + s.n2 * v), S2, ?_, ⟨?_, ?_⟩, ins_mul h u v, st1.trans st2⟩
  · show callF Fs gl0 1000000 (k + 3 + 1) 12 _ S = _
    rw [callF_at (fd := f__law_place_of) rfl rfl]
    simp [f__law_place_of, G.start, eS, eP, e1', e2', k1, k2]
    exact tidy_same (st2.len.trans st1.len)
  · exact bits_le (bits_add (a := 1005) (bits_le h.pb (by decide)) (bits_le (bits_mul h.ab ub) (by decide))) (by decide)
  · exact bits_le (bits_add (a := 1005) (bits_le h.qb (by decide)) (bits_le (bits_mul h.bb vb) (by decide))) (by decide)
theorem near_ok {k B : Nat} {M : Mc} {S : Sto} {s : Side} (h : SideOk s) (g : Good S) (m : Mach M S B) (hB : B + 6 < 1000000) :
    ∃ a S', run (k + 5) 13 [.ref M.n, eS s] S = .ok (eP a) S' ∧ PlIn s a ∧ Step M S S' (B + 6) := by
  obtain ⟨⟨p, q⟩, S1, e1, pb, _, st1⟩ := place_of_ok (k := k) h g m (by omega)
  obtain ⟨w, S2, e2, w0, wl, st2⟩ := dr (k := k + 3) 5 st1.good st1.mach (by omega) (by decide) (bits_le (a := 3) (bits_small (by decide)) (by decide))
  have e1' : callF Fs gl0 1000000 (k + 4) 12 [.ref M.n, .tup [.int s.n1, .int s.n2, .tup [.int s.p, .int s.q]]] S = .ok (.tup [.int p, .int q]) S1 := e1
  have pb1 : intBits p ≤ 1010 := pb.1
  have qb1 : intBits q ≤ 1010 := pb.2
  have n2 : intBits 2 ≤ 9000 := bits_le (a := 2) (bits_small (by decide)) (by decide)
  have hb1 : intBits (s.n1.fdiv 2) ≤ 200 := fdiv_bits (by have := h.a; omega) (by decide) h.ab
  have hb2 : intBits (s.n2.fdiv 2) ≤ 200 := fdiv_bits (by have := h.b; omega) (by decide) h.bb
  have ba := h.ab
  have bb := h.bb
  show ∃ a S', callF Fs gl0 1000000 (k + 4 + 1) 13 _ S = .ok (eP a) S' ∧ PlIn s a ∧ Step M S S' (B + 6)
  by_cases hw0 : w = 0
  · obtain ⟨z, S3, e3, hz, r3, _, _⟩ := ofI (k := k + 2) [1, -1, s.n1.fdiv 2, s.n2] st2.good st2.mach (by omega) (by simp) (by simp)
    have zb : intBits z ≤ 200 := by
      simp only [List.mem_cons, List.not_mem_nil, or_false] at hz
      rcases hz with rfl | rfl | rfl | rfl
      · exact bits_le (a := 1) (bits_small (by decide)) (by decide)
      · exact bits_le (a := 1) (bits_small (by decide)) (by decide)
      · exact hb1
      · exact bb
    have rr : Reach M S S3 (B + 6) := ((((Reach.refl g m).step st1).step st2).trans r3).more (by omega)
    obtain ⟨t1, t2⟩ := rr.back (d := eP (p + z, q)) g m (un_eP _)
    refine ⟨(p + z, q), S3.take S.length, ?_, ⟨bits_le (bits_add (a := 1010) pb1 (bits_le zb (by decide))) (by decide), bits_le qb1 (by decide)⟩, t2⟩
    rw [callF_at (fd := f__law_near) rfl rfl]
    simp only [List.map_cons, List.map_nil] at e3
    simp [f__law_near, G.start, eS, eP, e1', e2, hw0, n2, e3]
    exact t1
  · by_cases hw1 : w = 1
    · obtain ⟨z, S3, e3, hz, r3, _, _⟩ := ofI (k := k + 2) [1, -1, s.n2.fdiv 2, s.n1] st2.good st2.mach (by omega) (by simp) (by simp)
      have zb : intBits z ≤ 200 := by
        simp only [List.mem_cons, List.not_mem_nil, or_false] at hz
        rcases hz with rfl | rfl | rfl | rfl
        · exact bits_le (a := 1) (bits_small (by decide)) (by decide)
        · exact bits_le (a := 1) (bits_small (by decide)) (by decide)
        · exact hb2
        · exact ba
      have rr : Reach M S S3 (B + 6) := ((((Reach.refl g m).step st1).step st2).trans r3).more (by omega)
      obtain ⟨t1, t2⟩ := rr.back (d := eP (p, q + z)) g m (un_eP _)
      refine ⟨(p, q + z), S3.take S.length, ?_, ⟨bits_le pb1 (by decide), bits_le (bits_add (a := 1010) qb1 (bits_le zb (by decide))) (by decide)⟩, t2⟩
      rw [callF_at (fd := f__law_near) rfl rfl]
      simp only [List.map_cons, List.map_nil] at e3
      simp [f__law_near, G.start, eS, eP, e1', e2, hw1, n2, e3]
      exact t1
    · have st : Step M S S2 (B + 6) := (st1.trans st2).more (by omega)
      by_cases hw2 : w = 2
      · refine ⟨(q, p), S2, ?_, ⟨bits_le qb1 (by decide), bits_le pb1 (by decide)⟩, st⟩
        rw [callF_at (fd := f__law_near) rfl rfl]
        simp [f__law_near, G.start, eS, eP, e1', e2, hw2]
        exact tidy_same st.len
      · refine ⟨(p, q), S2, ?_, ⟨bits_le pb1 (by decide), bits_le qb1 (by decide)⟩, st⟩
        rw [callF_at (fd := f__law_near) rfl rfl]
        simp [f__law_near, G.start, eS, eP, e1', e2, hw0, hw1, hw2]
        exact tidy_same st.len
theorem side_ok {k B : Nat} {M : Mc} {S : Sto} (g : Good S) (m : Mach M S B) (hB : B + 12 < 1000000) :
    ∃ s S', run (k + 3) 9 [.ref M.n] S = .ok (eS s) S' ∧ SideOk s ∧ Step M S S' (B + 9) := by
  obtain ⟨a1, S1, e1, p1, l1, st1⟩ := dr (k := k + 1) 5 g m (by omega) (by decide) (bits_le (a := 3) (bits_small (by decide)) (by decide))
  obtain ⟨a2, S2, e2, p2, l2, st2⟩ := dr (k := k + 1) 12 st1.good st1.mach (by omega) (by decide) (bits_le (a := 4) (bits_small (by decide)) (by decide))
  obtain ⟨a3, S3, e3, p3, l3, st3⟩ := dr (k := k + 1) (10 ^ 40) st2.good st2.mach (by omega) (by decide) (by decide +kernel)
  have zs : ∀ z ∈ [1, 2 + a1, 2 + a1, (2 + a1) * (2 + a1), (2 + a1) ^ 3, 1 + a2, 1 + a3], 0 < z ∧ intBits z ≤ 140 := by
    intro z hz
    have c1 : a1 = 0 ∨ a1 = 1 ∨ a1 = 2 ∨ a1 = 3 ∨ a1 = 4 := by omega
    simp only [List.mem_cons, List.not_mem_nil, or_false] at hz
    rcases hz with rfl | rfl | rfl | rfl | rfl | rfl | rfl
    · exact ⟨by decide, by decide +kernel⟩
    · rcases c1 with rfl | rfl | rfl | rfl | rfl <;> exact ⟨by decide, by decide +kernel⟩
    · rcases c1 with rfl | rfl | rfl | rfl | rfl <;> exact ⟨by decide, by decide +kernel⟩
    · rcases c1 with rfl | rfl | rfl | rfl | rfl <;> exact ⟨by decide, by decide +kernel⟩
    · rcases c1 with rfl | rfl | rfl | rfl | rfl <;> exact ⟨by decide, by decide +kernel⟩
    · exact ⟨by omega, bits_le (a := 10) (bits_small (by omega)) (by decide)⟩
    · exact ⟨by omega, bits_add (a := 139) (bits_le (a := 1) (bits_small (by decide)) (by decide)) (lt_bits p3 l3 (by decide +kernel))⟩
  obtain ⟨n1, S4, e4, hn1, r4, h4, len4⟩ := ofI (k := k) [1, 2 + a1, 2 + a1, (2 + a1) * (2 + a1), (2 + a1) ^ 3, 1 + a2, 1 + a3] st3.good st3.mach (by omega) (by simp) (by simp)
  have ht : S3.length ≠ M.n := Nat.ne_of_gt st3.mach.lt
  obtain ⟨d2, S5, e5, hd2, st5⟩ := ofA_ok (F := Fs) (gl := gl0) (wf := 1000000) (k := k) (i := 7) (j := 6) (t := S3.length) rfl rfl r4.good r4.mach (by omega) h4 ht (by simp) (by simp)
  obtain ⟨n2, hn2, rfl⟩ := List.mem_map.mp hd2
  obtain ⟨n10, n1b⟩ := zs n1 hn1
  obtain ⟨n20, n2b⟩ := zs n2 hn2
  obtain ⟨b1, S6, e6, q1, m1, st6⟩ := dr (k := k + 1) n1 st5.good st5.mach (by omega) n10 (bits_le n1b (by decide))
  obtain ⟨p, S7, e7, hp, r7, _, _⟩ := ofI (k := k) [0, n1 - 1, b1] st6.good st6.mach (by omega) (by simp) (by simp)
  obtain ⟨b2, S8, e8, q2, m2, st8⟩ := dr (k := k + 1) n2 r7.good r7.mach (by omega) n20 (bits_le n2b (by decide))
  obtain ⟨q, S9, e9, hq, r9, _, _⟩ := ofI (k := k) [0, n2 - 1, b2] st8.good st8.mach (by omega) (by simp) (by simp)
  have pb : intBits p ≤ 200 := by
    simp only [List.mem_cons, List.not_mem_nil, or_false] at hp
    rcases hp with rfl | rfl | rfl
    · exact bits_le (a := 1) (bits_small (by decide)) (by decide)
    · exact bits_le (bits_sub (a := 140) n1b (bits_le (a := 1) (bits_small (by decide)) (by decide))) (by decide)
    · exact bits_le (lt_bits q1 m1 n1b) (by decide)
  have qb : intBits q ≤ 200 := by
    simp only [List.mem_cons, List.not_mem_nil, or_false] at hq
    rcases hq with rfl | rfl | rfl
    · exact bits_le (a := 1) (bits_small (by decide)) (by decide)
    · exact bits_le (bits_sub (a := 140) n2b (bits_le (a := 1) (bits_small (by decide)) (by decide))) (by decide)
    · exact bits_le (lt_bits q2 m2 n2b) (by decide)
  have rr : Reach M S S9 (B + 9) := ((((((((((Reach.refl g m).step st1).step st2).step st3).trans r4).step st5).step st6).trans r7).step st8).trans r9).more (by omega)
  obtain ⟨t1, t2⟩ := rr.back (d := eS ⟨n1, n2, p, q⟩) g m (un_eS _)
  refine ⟨⟨n1, n2, p, q⟩, S9.take S.length, ?_, ⟨n10, n20, bits_le n1b (by decide), bits_le n2b (by decide), pb, qb⟩, t2⟩
  show callF Fs gl0 1000000 (k + 2 + 1) 9 _ S = _
  have c1 : a1 = 0 ∨ a1 = 1 ∨ a1 = 2 ∨ a1 = 3 ∨ a1 = 4 := by omega
  have k1 : bitsOk (2 + a1) (2 + a1) = true := bitsOk_of (a := 10) (b := 10) (bits_small (by omega)) (bits_small (by omega)) (by decide)
  have k2 : (2 + a1).natAbs < 2 ^ 64 := by omega
  have k2' : (2 + a1).natAbs < 18446744073709551616 := by omega
  rw [callF_at (fd := f__law_side) rfl rfl]
  simp only [List.map_cons, List.map_nil] at e4 e7 e9
  simp at e3
  simp [f__law_side, G.start, e1, e2, e3, k1, k2, k2', e4, e5, e6, e7, e8, e9]
  exact ⟨rfl, t1⟩
/-! ### drawn rows -/
theorem _root_.G.Reach.put {M : Mc} {S S1 : Sto} {B B0 t : Nat} {o : Ob} (a : Reach M S S1 B) (m : Mach M S B0) (ht : S.length ≤ t) (ho : o.under S1.length = true) : Reach M S (S1.set t o) B := by
  obtain ⟨l, p, q⟩ := a.mach
  have hn := m.lt
  have hc := m.ltc
  refine ⟨a.good.set ho, ⟨l, p, ?_, ?_, q.ne, q.len, q.bits, q.s0, q.s1, q.p0, q.p1, q.lb⟩, by rw [List.length_set]; exact a.len, fun j h1 h2 => ?_⟩
  · rw [List.getElem?_set_ne (by omega)]; exact q.m
  · rw [List.getElem?_set_ne (by omega)]; exact q.cs
  · rw [List.getElem?_set_ne (by omega)]; exact a.same j h1 h2
def fits (r : Row) (a : Pl) : Bool := match r.getLast? with
  | some x => !decide (x.1 = a)
  | none => true
def condE (i j : Nat) : E := .or (.cons (.cmp .eq (.v i) (.lst .nil)) (.cons (.cmp .ne (.ix (.ix (.v i) (.neg (.k (.int 1)))) (.k (.int 0))) (.v j)) .nil))
def appE (i j : Nat) : Ss := .cons (.ex (.met .app (.v i) (.cons (.tup (.cons (.v j) (.cons (.call 11 (.cons (.v 0) .nil)) .nil))) .nil))) .nil
theorem cond_ok {C : Cfg} {ρ : G.Env} {S : Sto} {i j t : Nat} {r : Row} {a : Pl} (hi : ρ[i]? = some (some (.ref t))) (hj : ρ[j]? = some (some (eP a))) (h : S[t]? = some (.lst (r.map eI))) :
    evT C (condE i j) ρ S = .ok (fits r a) (S ++ [.lst []]) := by
  have hl : t < S.length := (List.getElem?_eq_some_iff.mp h).1
  have he := eq_row h
  have hT : (S ++ [Ob.lst []])[t]? = some (.lst (r.map eI)) := by rw [List.getElem?_append_left hl]; exact h
  unfold fits
  cases hla : r.getLast? with
  | none =>
    have hr0 : r = [] := List.getLast?_eq_none_iff.mp hla
    subst hr0
    simp at he
    simp [condE, getV_ok hi, getV_ok hj, he]
  | some l =>
    have hn : r.isEmpty = false := by cases r with
      | nil => cases hla
      | cons _ _ => rfl
    rw [hn] at he
    have hat := ix_lst hT (atI_last (getLast_map hla))
    have h6 := ne_P (S := S ++ [Ob.lst []]) l.1 a
    simp [condE, getV_ok hi, getV_ok hj, he, hat, eI, h6]
theorem app_ok {k B : Nat} {M : Mc} {S : Sto} {ρ : G.Env} {i j t : Nat} {r : Row} {a : Pl} (h0 : ρ[0]? = some (some (.ref M.n))) (hi : ρ[i]? = some (some (.ref t))) (hj : ρ[j]? = some (some (eP a))) (h : S[t]? = some (.lst (r.map eI))) (ht : t ≠ M.n) (hr : r.length < 1000)
    (g : Good S) (m : Mach M S B) (hB : B + 3 < 1000000) :
    ∃ e S', exSs ⟨callF Fs gl0 1000000 (k + 3), 1000000, gl0⟩ (appE i j) ρ S = .ok .nx ρ (S'.set t (.lst ((r ++ [(a, e)]).map eI))) ∧ intBits e ≤ 101 ∧ Step M S S' (B + 3) := by
  obtain ⟨e, S', e1, eb, st⟩ := exponent_ok (k := k) g m hB
  have e1' : callF Fs gl0 1000000 (k + 3) 11 [.ref M.n] S = .ok (.int e) S' := e1
  refine ⟨e, S', ?_, eb, st⟩
  have h' : S'[t]? = some (.lst (r.map eI)) := by rw [st.same t ht]; exact h
  have hap : metD .app (.ref t) [.tup [eP a, .int e]] S' = .ok .non (S'.set t (.lst (r.map eI ++ [.tup [eP a, .int e]]))) := met_app h' (by simp; omega)
  simp [appE, getV_ok h0, getV_ok hi, getV_ok hj, isLst_ref h, e1', hap, eI]
theorem fits_red {r : Row} {a : Pl} {e : Int} (h : Red r) (hf : fits r a = true) : Red (r ++ [(a, e)]) := by
  intro i x y hx hy
  by_cases hi : i + 1 < r.length
  · rw [List.getElem?_append_left hi] at hy
    rw [List.getElem?_append_left (by omega)] at hx
    exact h i x y hx hy
  · have hlt := (List.getElem?_eq_some_iff.mp hy).1
    rw [List.length_append, List.length_singleton] at hlt
    have hi2 : i + 1 = r.length := by omega
    rw [List.getElem?_append_right (by omega), hi2, Nat.sub_self] at hy
    cases hy
    rw [List.getElem?_append_left (by omega)] at hx
    unfold fits at hf
    rw [List.getLast?_eq_getElem?, ← hi2, Nat.add_sub_cancel, hx] at hf
    simpa using hf
/-- a drawn row -/
structure Dr (Q : Pl → Prop) (n : Nat) (r : Row) : Prop where
  red : Red r
  len : r.length ≤ n
  q : ∀ x ∈ r, Q x.1
  e : ∀ x ∈ r, intBits x.2 ≤ 101
theorem Dr.nil {Q : Pl → Prop} : Dr Q 0 [] := ⟨fun i x y h => by simp at h, Nat.le_refl _, fun x h => by simp at h, fun x h => by simp at h⟩
theorem Dr.more {Q : Pl → Prop} {n n' : Nat} {r : Row} (h : Dr Q n r) (hn : n ≤ n') : Dr Q n' r := ⟨h.red, Nat.le_trans h.len hn, h.q, h.e⟩
theorem Dr.app {Q : Pl → Prop} {n : Nat} {r : Row} {a : Pl} {e : Int} (h : Dr Q n r) (hf : fits r a = true) (ha : Q a) (he : intBits e ≤ 101) : Dr Q (n + 1) (r ++ [(a, e)]) := by
  refine ⟨fits_red h.red hf, by rw [List.length_append, List.length_singleton]; have := h.len; omega, fun x hx => ?_, fun x hx => ?_⟩
  · rcases List.mem_append.mp hx with hx | hx
    · exact h.q x hx
    · rw [List.mem_singleton.mp hx]; exact ha
  · rcases List.mem_append.mp hx with hx | hx
    · exact h.e x hx
    · rw [List.mem_singleton.mp hx]; exact he
theorem row_under {n : Nat} (r : Row) : Ob.under n (.lst (r.map eI)) = true := by
  simp only [Ob.under, underAll_iff]
  intro d hd
  obtain ⟨x, _, rfl⟩ := List.mem_map.mp hd
  exact un_eI x
/-- the turn's end -/
theorem fit_turn {k B B0 n : Nat} {M : Mc} {S0 S : Sto} {ρ : G.Env} {i j : Nat} {r : Row} {a : Pl} {Q : Pl → Prop} (h0 : ρ[0]? = some (some (.ref M.n))) (hi : ρ[i]? = some (some (.ref S0.length))) (hj : ρ[j]? = some (some (eP a))) (m0 : Mach M S0 B0) (rr : Reach M S0 S B)
    (h : S[S0.length]? = some (.lst (r.map eI))) (hB : B + 3 < 1000000) (hd : Dr Q n r) (hn : n < 100) (ha : Q a) :
    ∃ r' S', exS ⟨callF Fs gl0 1000000 (k + 3), 1000000, gl0⟩ (.ite (condE i j) (appE i j) .nil) ρ S = .ok .nx ρ S' ∧ S'[S0.length]? = some (.lst (r'.map eI)) ∧ Reach M S0 S' (B + 3) ∧ Dr Q (n + 1) r' := by
  have hl : S0.length < S.length := (List.getElem?_eq_some_iff.mp h).1
  have ht : S0.length ≠ M.n := Nat.ne_of_gt m0.lt
  have hT : (S ++ [Ob.lst []])[S0.length]? = some (.lst (r.map eI)) := by rw [List.getElem?_append_left hl]; exact h
  have rr1 : Reach M S0 (S ++ [.lst []]) B := rr.alloc (by simp [Ob.under, underAll])
  have hc := cond_ok (C := ⟨callF Fs gl0 1000000 (k + 3), 1000000, gl0⟩) hi hj h
  cases hf : fits r a with
  | false =>
    rw [hf] at hc
    exact ⟨r, S ++ [.lst []], by simp [hc], hT, rr1.more (by omega), hd.more (by omega)⟩
  | true =>
    rw [hf] at hc
    have hlen := hd.len
    obtain ⟨e, S', e1, eb, st⟩ := app_ok (k := k) (r := r) (a := a) h0 hi hj hT ht (by omega) rr1.good rr1.mach hB
    have rr2 := rr1.step st
    refine ⟨r ++ [(a, e)], S'.set S0.length (.lst ((r ++ [(a, e)]).map eI)), by simp [hc, e1], ?_, rr2.put m0 (Nat.le_refl _) (row_under _), hd.app hf ha eb⟩
    rw [List.getElem?_set_self]
    rw [st.len, List.length_append]
    omega
def InQ (s : Side) (a : Pl) : Prop := (intBits a.1 ≤ 1100 ∧ intBits a.2 ≤ 1100) ∧ ins s a = true
theorem inside_ok {k B : Nat} {M : Mc} {S : Sto} {s : Side} {n : Nat} (h : SideOk s) (g : Good S) (m : Mach M S B) (hn : n ≤ 8) (hB : B + 70 < 1000000) :
    ∃ r sh S', run (k + 5) 17 [.ref M.n, eS s, .int n] S = .ok (eE r sh) S' ∧ Dr (InQ s) 8 r ∧ PlB sh ∧ Step M S S' (B + 70) := by
  show ∃ r sh S', callF Fs gl0 1000000 (k + 4 + 1) 17 _ S = .ok (eE r sh) S' ∧ Dr (InQ s) 8 r ∧ PlB sh ∧ Step M S S' (B + 70)
  rw [callF_at (fd := f__law_inside) rfl rfl]
  have hr1 : ((n : Nat) : Int).natAbs < 2 ^ 62 := by omega
  simp [f__law_inside, G.start, rng1_int hr1]
  generalize hw : forL _ _ _ _ = r
  obtain ⟨ρ', S', rfl, r, rr, hd, hrow, x4, x5, rfl⟩ : ∃ ρ' S', r = .ok .nx ρ' S' ∧ ∃ r, Reach M S S' (B + 7 * n) ∧ Dr (InQ s) n r ∧ S'[S.length]? = some (.lst (r.map eI)) ∧ ∃ x4 x5, ρ' = [some (.ref M.n), some (eS s), some (.int n), some (.ref S.length), x4, x5] := by
    rw [← hw]
    refine forL_ok (fun ds ρ S' => ∃ c r, c + ds.length = n ∧ Reach M S S' (B + 7 * c) ∧ Dr (InQ s) c r ∧ S'[S.length]? = some (.lst (r.map eI)) ∧ ∃ x4 x5, ρ = [some (.ref M.n), some (eS s), some (.int n), some (.ref S.length), x4, x5])
      _ (fun d ds ρ S' hp => ?_) (fun ρ S' hp => ?_) _ _ _ ⟨0, [], by simp [rangeL], ((Reach.refl g m).alloc (by simp [Ob.under, underAll])).more (by omega), Dr.nil, by simp, none, none, rfl⟩
    · obtain ⟨c, r, hc, rr, hd, hrow, x4, x5, rfl⟩ := hp
      simp only [List.length_cons] at hc
      obtain ⟨a, S1, e1, ab, ai, st⟩ := place_of_ok (k := k) h rr.good rr.mach (by omega)
      have e1' : callF Fs gl0 1000000 (k + 4) 12 [.ref M.n, eS s] S' = .ok (eP a) S1 := e1
      have ht : S.length ≠ M.n := Nat.ne_of_gt m.lt
      obtain ⟨r', S2, e2, hrow2, rr2, hd2⟩ := fit_turn (k := k + 1) (i := 3) (j := 5) (ρ := [some (.ref M.n), some (eS s), some (.int n), some (.ref S.length), some d, some (eP a)]) (Q := InQ s) rfl rfl rfl m (rr.step st) (by rw [st.same _ ht]; exact hrow) (by omega) hd (by omega) ⟨⟨bits_le ab.1 (by decide), bits_le ab.2 (by decide)⟩, ai⟩
      refine .inl ⟨_, S2, .inl ?_, c + 1, r', by omega, rr2.more (by omega), hd2, hrow2, some d, some (eP a), rfl⟩
      unfold condE appE at e2
      simp only [bodyOf, asgT_n, exs_cons, exs_nil, ex_asg, ev_call, evs_cons, evs_nil, ev_v, getV_zero, getV_succ, bind_ok, e1', st_ok, next_nx, asgR_n, List.set_cons_zero, List.set_cons_succ]
      rw [e2]
      rfl
    · obtain ⟨c, r, hc, rr, hd, hrow, hx⟩ := hp
      simp only [List.length_nil, Nat.add_zero] at hc
      subst hc
      exact ⟨r, rr, hd, hrow, hx⟩
  obtain ⟨u, S1, e1, ub, st1⟩ := number_ok (k := k + 1) rr.good rr.mach (by omega)
  obtain ⟨v, S2, e2, vb, st2⟩ := number_ok (k := k + 1) st1.good st1.mach (by omega)
  have e1' : callF Fs gl0 1000000 (k + 4) 10 [.ref M.n] S' = .ok (.int u) S1 := e1
  have e2' : callF Fs gl0 1000000 (k + 4) 10 [.ref M.n] S1 = .ok (.int v) S2 := e2
  have k1 : bitsOk s.n1 u = true := bitsOk_of h.ab ub (by decide)
  have k2 : bitsOk s.n2 v = true := bitsOk_of h.bb vb (by decide)
  obtain ⟨t1, t2⟩ := ((rr.step st1).step st2).back (d := eE r (s.n1 * u, s.n2 * v)) g m (un_eE _ _)
  refine ⟨r, s.n1 * u, s.n2 * v, S2.take S.length, ?_, hd.more hn, ⟨bits_le (bits_mul h.ab ub) (by decide), bits_le (bits_mul h.bb vb) (by decide)⟩, t2.more (by omega)⟩
  simp [tuple_ref hrow, eS, eP, e1', e2', k1, k2]
  exact ⟨rfl, t1⟩
def BitQ (a : Pl) : Prop := intBits a.1 ≤ 1100 ∧ intBits a.2 ≤ 1100
theorem ne_ps {S : Sto} {n : Nat} {ps : List Pl} (h : S[n]? = some (.lst (ps.map eP))) : cmpD .ne (.ref n) (.ref S.length) (S ++ [.lst []]) = .ok (.bl (!ps.isEmpty)) (S ++ [.lst []]) := by
  have hl := (List.getElem?_eq_some_iff.mp h).1
  have := (eq_nil (S := S ++ [.lst []]) (n := n) (m := S.length) (by rw [List.getElem?_append_left hl]; exact h) (by simp) (pds_map (k := 59) (g := pP) ps fun x _ => pd_P (k := 57) x) (lay_map ps fun x _ => lay_P x)).2
  simpa using this
def rowE : E := .ite (.and (.cons (.cmp .ne (.v 3) (.lst .nil)) (.cons (.cmp .eq (.call 6 (.cons (.v 0) (.cons (.k (.int 4)) .nil))) (.k (.int 0))) .nil))) (.call 7 (.cons (.v 0) (.cons (.v 3) .nil))) (.call 13 (.cons (.v 0) (.cons (.v 1) .nil)))
theorem rowE_ok {k B t : Nat} {M : Mc} {S0 S : Sto} {s : Side} {ps : List Pl} {ρ : G.Env} (h : SideOk s) (rr : Reach M S0 S B) (hB : B + 8 < 1000000)
    (hps : ∀ p ∈ ps, BitQ p) (hl : ps.length < 1000) (ht : S[t]? = some (.lst (ps.map eP))) (htn : t ≠ M.n)
    (q0 : ρ[0]? = some (some (.ref M.n))) (q1 : ρ[1]? = some (some (eS s))) (q3 : ρ[3]? = some (some (.ref t))) :
    ∃ a S', evE ⟨callF Fs gl0 1000000 (k + 5), 1000000, gl0⟩ rowE ρ S = .ok (eP a) S' ∧ BitQ a ∧ Reach M S0 S' (B + 8) := by
  have hlt : t < S.length := (List.getElem?_eq_some_iff.mp ht).1
  have hne := ne_ps ht
  have rr1 : Reach M S0 (S ++ [.lst []]) B := rr.alloc (by simp [Ob.under, underAll])
  have ht1 : (S ++ [Ob.lst []])[t]? = some (.lst (ps.map eP)) := by rw [List.getElem?_append_left hlt]; exact ht
  cases hp : ps.isEmpty with
  | true =>
    rw [hp] at hne
    obtain ⟨a, S2, e2, ha, st⟩ := near_ok (k := k) h rr1.good rr1.mach (by omega)
    have e2' : callF Fs gl0 1000000 (k + 5) 13 [.ref M.n, eS s] (S ++ [.lst []]) = .ok (eP a) S2 := e2
    exact ⟨a, S2, by simp [rowE, getV_ok q0, getV_ok q1, getV_ok q3, hne, e2'], ha.b, (rr1.step st).more (by omega)⟩
  | false =>
    rw [hp] at hne
    obtain ⟨w, S1, e1, w0, wl, st1⟩ := dr (k := k + 4) 4 rr1.good rr1.mach (by omega) (by decide) (bits_le (a := 3) (bits_small (by decide)) (by decide))
    have rr2 := rr1.step st1
    have ht2 : S1[t]? = some (.lst (ps.map eP)) := by rw [st1.same t htn]; exact ht1
    by_cases hw : w = 0
    · obtain ⟨d, S2, e2, hd, st2⟩ := ofA_ok (F := Fs) (gl := gl0) (wf := 1000000) (k := k + 3) (i := 7) (j := 6) (t := t) rfl rfl rr2.good rr2.mach (by omega) ht2 htn (by intro e; rw [List.map_eq_nil_iff] at e; rw [e] at hp; cases hp) (by rw [List.length_map]; omega)
      obtain ⟨a, ha, rfl⟩ := List.mem_map.mp hd
      exact ⟨a, S2, by simp [rowE, getV_ok q0, getV_ok q1, getV_ok q3, hne, e1, hw, e2], hps a ha, (rr2.step st2).more (by omega)⟩
    · obtain ⟨a, S2, e2, ha, st⟩ := near_ok (k := k) h rr2.good rr2.mach (by omega)
      have e2' : callF Fs gl0 1000000 (k + 5) 13 [.ref M.n, eS s] S1 = .ok (eP a) S2 := e2
      exact ⟨a, S2, by simp [rowE, getV_ok q0, getV_ok q1, getV_ok q3, hne, e1, hw, e2'], ha.b, (rr2.step st).more (by omega)⟩
theorem row_ok {k B t : Nat} {M : Mc} {S : Sto} {s : Side} {n : Nat} {ps : List Pl} (h : SideOk s) (g : Good S) (m : Mach M S B) (hn : n ≤ 8) (hB : B + 200 < 1000000)
    (hps : ∀ p ∈ ps, BitQ p) (hl : ps.length < 1000) (ht : S[t]? = some (.lst (ps.map eP))) (htn : t ≠ M.n) :
    ∃ r S', run (k + 6) 14 [.ref M.n, eS s, .int n, .ref t] S = .ok (eR r) S' ∧ Dr BitQ 8 r ∧ Step M S S' (B + 100) := by
  show ∃ r S', callF Fs gl0 1000000 (k + 5 + 1) 14 _ S = .ok (eR r) S' ∧ Dr BitQ 8 r ∧ Step M S S' (B + 100)
  rw [callF_at (fd := f__law_row) rfl rfl]
  have hr1 : ((n : Nat) : Int).natAbs < 2 ^ 62 := by omega
  have htl : t < S.length := (List.getElem?_eq_some_iff.mp ht).1
  simp [f__law_row, G.start, rng1_int hr1]
  generalize hw : forL _ _ _ _ = r
  obtain ⟨ρ', S', rfl, r, rr, hd, hrow, x4, x5, rfl⟩ : ∃ ρ' S', r = .ok .nx ρ' S' ∧ ∃ r, Reach M S S' (B + 11 * n) ∧ Dr BitQ n r ∧ S'[S.length]? = some (.lst (r.map eI)) ∧ ∃ x4 x5, ρ' = [some (.ref M.n), some (eS s), some (.int n), some (.ref t), some (.ref S.length), x4, x5] := by
    rw [← hw]
    refine forL_ok (fun ds ρ S' => ∃ c r, c + ds.length = n ∧ Reach M S S' (B + 11 * c) ∧ Dr BitQ c r ∧ S'[S.length]? = some (.lst (r.map eI)) ∧ ∃ x4 x5, ρ = [some (.ref M.n), some (eS s), some (.int n), some (.ref t), some (.ref S.length), x4, x5])
      _ (fun d ds ρ S' hp => ?_) (fun ρ S' hp => ?_) _ _ _ ⟨0, [], by simp [rangeL], ((Reach.refl g m).alloc (by simp [Ob.under, underAll])).more (by omega), Dr.nil, by simp, none, none, rfl⟩
    · obtain ⟨c, r, hc, rr, hd, hrow, x4, x5, rfl⟩ := hp
      simp only [List.length_cons] at hc
      obtain ⟨a, S1, e1, ab, rr1⟩ := rowE_ok (k := k) (t := t) (ρ := [some (.ref M.n), some (eS s), some (.int n), some (.ref t), some (.ref S.length), some d, x5]) h (Reach.refl rr.good rr.mach) (by omega) hps hl (by rw [rr.same t htl htn]; exact ht) htn rfl rfl rfl
      have ht1 : S.length ≠ M.n := Nat.ne_of_gt m.lt
      have hlr : S.length < S'.length := (List.getElem?_eq_some_iff.mp hrow).1
      obtain ⟨r', S2, e2, hrow2, rr2, hd2⟩ := fit_turn (k := k + 2) (i := 4) (j := 6) (ρ := [some (.ref M.n), some (eS s), some (.int n), some (.ref t), some (.ref S.length), some d, some (eP a)]) (Q := BitQ) rfl rfl rfl m (rr.trans rr1) (by rw [rr1.same _ hlr ht1]; exact hrow) (by omega) hd (by omega) ab
      refine .inl ⟨_, S2, .inl ?_, c + 1, r', by omega, rr2.more (by omega), hd2, hrow2, some d, some (eP a), rfl⟩
      unfold condE appE at e2
      unfold rowE at e1
      simp only [bodyOf, asgT_n, exs_cons, exs_nil, ex_asg, st_ok, next_nx, asgR_n, List.set_cons_zero, List.set_cons_succ]
      rw [e1]
      simp only [st_ok, next_nx, asgR_n, List.set_cons_zero, List.set_cons_succ]
      rw [e2]
      rfl
    · obtain ⟨c, r, hc, rr, hd, hrow, hx⟩ := hp
      simp only [List.length_nil, Nat.add_zero] at hc
      subst hc
      exact ⟨r, rr, hd, hrow, hx⟩
  obtain ⟨t1, t2⟩ := rr.back (d := eR r) g m (un_eR _)
  refine ⟨r, S'.take S.length, ?_, hd.more hn, t2.more (by omega)⟩
  simp [tuple_ref hrow, eR]
  exact t1
theorem and_split {C : Cfg} {ρ : G.Env} {S : Sto} {c x : E} {A : Ss} (h : evT C c ρ S = .ok true S) : exS C (.ite (.and (.cons c (.cons x .nil))) A .nil) ρ S = exS C (.ite x A .nil) ρ S := by
  simp only [ex_ite, evt_and, evat_cons, evat_one, h, bind_ok, if_true]
def parE : E := .cmp .eq (.bin .mod (.blt .int (.cons (.bin .add (.bin .add (.ix (.v 5) (.k (.int 0))) (.ix (.v 5) (.k (.int 1)))) (.v 2)) .nil)) (.k (.int 2))) (.k (.int 0))
def MixQ (odd : Int) (a : Pl) : Prop := BitQ a ∧ par odd (a, 0) = true
theorem mixed_ok {k B : Nat} {M : Mc} {S : Sto} {s : Side} {odd : Int} (h : SideOk s) (g : Good S) (m : Mach M S B) (hB : B + 200 < 1000000) :
    ∃ r S', run (k + 6) 19 [.ref M.n, eS s, .int odd] S = .ok (eR r) S' ∧ Dr (MixQ odd) 4 r ∧ Step M S S' (B + 100) := by
  show ∃ r S', callF Fs gl0 1000000 (k + 5 + 1) 19 _ S = .ok (eR r) S' ∧ Dr (MixQ odd) 4 r ∧ Step M S S' (B + 100)
  rw [callF_at (fd := f__law_mixed) rfl rfl]
  have ht1 : S.length ≠ M.n := Nat.ne_of_gt m.lt
  obtain ⟨n, S0, e0, hn, r0, h0, h0l⟩ := ofI (k := k + 3) [0, 1, 2, 4] (S1 := S ++ [.lst []]) (g.app (by simp [Ob.under, underAll])) m.wide (by omega) (by simp) (by simp)
  have rr0 : Reach M S S0 (B + 1) := ((Reach.refl g m).alloc (by simp [Ob.under, underAll])).trans r0
  have hr0 : S0[S.length]? = some (.lst (([] : Row).map eI)) := by rw [r0.same _ (by simp) ht1]; simp
  obtain ⟨n, rfl, hn4⟩ : ∃ n' : Nat, n = n' ∧ n' ≤ 4 := by
    simp only [List.mem_cons, List.not_mem_nil, or_false] at hn
    rcases hn with rfl | rfl | rfl | rfl
    · exact ⟨0, rfl, by omega⟩
    · exact ⟨1, rfl, by omega⟩
    · exact ⟨2, rfl, by omega⟩
    · exact ⟨4, rfl, by omega⟩
  have hr1 : ((n : Nat) : Int).natAbs < 2 ^ 62 := by omega
  simp only [List.map_cons, List.map_nil] at e0
  simp at e0
  simp [f__law_mixed, G.start, e0, rng1_int hr1]
  generalize hw : forL _ _ _ _ = r
  obtain ⟨ρ', S', rfl, r, rr, hd, hrow, x4, x5, rfl⟩ : ∃ ρ' S', r = .ok .nx ρ' S' ∧ ∃ r, Reach M S S' (B + 1 + 11 * n) ∧ Dr (MixQ odd) n r ∧ S'[S.length]? = some (.lst (r.map eI)) ∧ ∃ x4 x5, ρ' = [some (.ref M.n), some (eS s), some (.int odd), some (.ref S.length), x4, x5] := by
    rw [← hw]
    refine forL_ok (fun ds ρ S' => ∃ c r, c + ds.length = n ∧ Reach M S S' (B + 1 + 11 * c) ∧ Dr (MixQ odd) c r ∧ S'[S.length]? = some (.lst (r.map eI)) ∧ ∃ x4 x5, ρ = [some (.ref M.n), some (eS s), some (.int odd), some (.ref S.length), x4, x5])
      _ (fun d ds ρ S' hp => ?_) (fun ρ S' hp => ?_) _ _ _ ⟨0, [], by simp [rangeL], rr0.more (by omega), Dr.nil, hr0, none, none, rfl⟩
    · obtain ⟨c, r, hc, rr, hd, hrow, x4, x5, rfl⟩ := hp
      simp only [List.length_cons] at hc
      have hlr : S.length < S'.length := (List.getElem?_eq_some_iff.mp hrow).1
      obtain ⟨a, S1, e1, ab, rr1⟩ : ∃ a S1, evE ⟨callF Fs gl0 1000000 (k + 5), 1000000, gl0⟩ (.ite (.cmp .eq (.call 6 (.cons (.v 0) (.cons (.k (.int 2)) .nil))) (.k (.int 0))) (.call 12 (.cons (.v 0) (.cons (.v 1) .nil))) (.call 13 (.cons (.v 0) (.cons (.v 1) .nil)))) [some (.ref M.n), some (eS s), some (.int odd), some (.ref S.length), some d, x5] S' = .ok (eP a) S1 ∧ BitQ a ∧ Step M S' S1 (B + 1 + 11 * c + 8) := by
        obtain ⟨w, S1, e1, w0, wl, st1⟩ := dr (k := k + 4) 2 rr.good rr.mach (by omega) (by decide) (bits_le (a := 2) (bits_small (by decide)) (by decide))
        by_cases hw : w = 0
        · obtain ⟨a, S2, e2, ab, ai, st2⟩ := place_of_ok (k := k + 1) h st1.good st1.mach (by omega)
          have e2' : callF Fs gl0 1000000 (k + 5) 12 [.ref M.n, eS s] S1 = .ok (eP a) S2 := e2
          exact ⟨a, S2, by simp [e1, hw, e2'], ⟨bits_le ab.1 (by decide), bits_le ab.2 (by decide)⟩, (st1.trans st2).more (by omega)⟩
        · obtain ⟨a, S2, e2, ha, st2⟩ := near_ok (k := k) h st1.good st1.mach (by omega)
          have e2' : callF Fs gl0 1000000 (k + 5) 13 [.ref M.n, eS s] S1 = .ok (eP a) S2 := e2
          exact ⟨a, S2, by simp [e1, hw, e2'], ha.b, (st1.trans st2).more (by omega)⟩
      have hrow1 : S1[S.length]? = some (.lst (r.map eI)) := by rw [rr1.same _ ht1]; exact hrow
      have hpe : evT ⟨callF Fs gl0 1000000 (k + 5), 1000000, gl0⟩ parE [some (.ref M.n), some (eS s), some (.int odd), some (.ref S.length), some d, some (eP a)] S1 = .ok (par odd (a, 0)) S1 := by
        simp [parE, eP, par]
      cases hpar : par odd (a, 0) with
      | true =>
        obtain ⟨r', S2, e2, hrow2, rr2, hd2⟩ := fit_turn (k := k + 2) (i := 3) (j := 5) (ρ := [some (.ref M.n), some (eS s), some (.int odd), some (.ref S.length), some d, some (eP a)]) (Q := MixQ odd) rfl rfl rfl m (rr.step rr1) hrow1 (by omega) hd (by omega) ⟨ab, hpar⟩
        refine .inl ⟨_, S2, .inl ?_, c + 1, r', by omega, rr2.more (by omega), hd2, hrow2, some d, some (eP a), rfl⟩
        rw [hpar] at hpe
        unfold condE appE at e2
        unfold parE at hpe
        simp only [bodyOf, asgT_n, exs_cons, exs_nil, ex_asg, st_ok, next_nx, asgR_n, List.set_cons_zero, List.set_cons_succ]
        rw [e1]
        simp only [st_ok, next_nx, asgR_n, List.set_cons_zero, List.set_cons_succ]
        rw [and_split hpe, e2]
        rfl
      | false =>
        refine .inl ⟨[some (.ref M.n), some (eS s), some (.int odd), some (.ref S.length), some d, some (eP a)], S1, .inl ?_, c + 1, r, by omega, (rr.step rr1).more (by omega), hd.more (by omega), hrow1, some d, some (eP a), rfl⟩
        rw [hpar] at hpe
        unfold parE at hpe
        simp only [bodyOf, asgT_n, exs_cons, exs_nil, ex_asg, st_ok, next_nx, asgR_n, List.set_cons_zero, List.set_cons_succ]
        rw [e1]
        simp only [st_ok, next_nx, asgR_n, List.set_cons_zero, List.set_cons_succ, ex_ite, evt_and, evat_cons, evat_one, hpe, bind_ok, Bool.false_eq_true, if_false, exs_nil]
    · obtain ⟨c, r, hc, rr, hd, hrow, hx⟩ := hp
      simp only [List.length_nil, Nat.add_zero] at hc
      subst hc
      exact ⟨r, rr, hd, hrow, hx⟩
  obtain ⟨t1, t2⟩ := rr.back (d := eR r) g m (un_eR _)
  refine ⟨r, S'.take S.length, ?_, hd.more hn4, t2.more (by omega)⟩
  simp [tuple_ref hrow, eR]
  exact t1
/-! ### the plain law -/
theorem dl_mem {α : Type} {r : List α} {y : α} (h : y ∈ r.dropLast) : y ∈ r := by
  rw [List.dropLast_eq_take] at h
  exact List.mem_of_mem_take h
theorem red_last {r : Row} {x : Itm} (h : Red r) (hx : ∀ l, r.getLast? = some l → l.1 ≠ x.1) : Red (r ++ [x]) := by
  intro i y z hy hz
  by_cases hi : i + 1 < r.length
  · rw [List.getElem?_append_left hi] at hz
    rw [List.getElem?_append_left (by omega)] at hy
    exact h i y z hy hz
  · have hlt := (List.getElem?_eq_some_iff.mp hz).1
    rw [List.length_append, List.length_singleton] at hlt
    have hi2 : i + 1 = r.length := by omega
    rw [List.getElem?_append_right (by omega), hi2, Nat.sub_self] at hz
    cases hz
    rw [List.getElem?_append_left (by omega)] at hy
    exact hx y (by rw [List.getLast?_eq_getElem?, ← hi2, Nat.add_sub_cancel]; exact hy)
theorem red_take {r : Row} (h : Red r) (c : Nat) : Red (r.take c) := by
  intro i y z hy hz
  have h1 := (List.getElem?_eq_some_iff.mp hz).1
  rw [List.length_take] at h1
  rw [List.getElem?_take_of_lt (by omega)] at hy hz
  exact h i y z hy hz
theorem red_dropLast {r : Row} (h : Red r) : Red r.dropLast := by
  rw [List.dropLast_eq_take]
  exact red_take h _
theorem last_split {r : Row} {l : Itm} (h : r.getLast? = some l) : r = r.dropLast ++ [l] := by
  have hne : r ≠ [] := by rintro rfl; cases h
  rw [List.getLast?_eq_some_getLast hne] at h
  cases h
  exact (List.dropLast_concat_getLast hne).symm
theorem mrg_red {r : Row} (h : Red r) (x : Itm) : Red (mrg r x) := by
  cases hl : r.getLast? with
  | none =>
    have hr0 : r = [] := List.getLast?_eq_none_iff.mp hl
    subst hr0
    rw [mrg_nil]
    split
    · exact red_last (r := []) h (fun l hl => by cases hl)
    · exact h
  | some l =>
    rw [mrg_some hl]
    by_cases e : l.1 = x.1
    · rw [if_pos e]
      split
      · refine red_last (red_dropLast h) fun l2 h2 => ?_
        have hs := last_split hl
        have hs2 := last_split h2
        have hz : r[r.dropLast.length]? = some l := by
          rw [hs]; simp
        have hne : r.dropLast ≠ [] := by intro q; rw [q] at h2; cases h2
        have hlen : 0 < r.dropLast.length := List.length_pos_iff.mpr hne
        have hy : r[r.dropLast.length - 1]? = some l2 := by
          rw [List.getLast?_eq_getElem?] at h2
          have h3 : (r.dropLast ++ [l])[r.dropLast.length - 1]? = some l2 := by rw [List.getElem?_append_left (by omega)]; exact h2
          rw [← hs] at h3
          exact h3
        have := h _ l2 l hy (by rw [Nat.sub_add_cancel hlen]; exact hz)
        rw [← e]
        exact this
      · exact red_dropLast h
    · rw [if_neg e]
      split
      · exact red_last h fun l2 h2 => by rw [hl] at h2; cases h2; exact e
      · exact h
theorem times_red {a : Row} (h : Red a) (b : Row) : Red (timesL a b) := by
  unfold timesL
  induction b generalizing a with
  | nil => exact h
  | cons x b ih => exact ih (mrg_red h x)
theorem red_rev {r : Row} (h : Red r) : Red r.reverse := by
  intro i y z hy hz
  have h1 := (List.getElem?_eq_some_iff.mp hz).1
  rw [List.length_reverse] at h1
  rw [List.getElem?_reverse (by omega)] at hy hz
  exact (h (r.length - 1 - (i + 1)) z y hz (by rw [← hy]; congr 1; omega)).symm
theorem mrg_mem {r : Row} {x y : Itm} (h : y ∈ mrg r x) : (∃ z ∈ r, z.1 = y.1) ∨ y.1 = x.1 := by
  cases hl : r.getLast? with
  | none =>
    have hr0 : r = [] := List.getLast?_eq_none_iff.mp hl
    subst hr0
    rw [mrg_nil] at h
    split at h
    · rw [List.mem_singleton.mp h]; exact .inr rfl
    · cases h
  | some l =>
    rw [mrg_some hl] at h
    split at h
    · split at h
      · rcases List.mem_append.mp h with h | h
        · exact .inl ⟨y, dl_mem h, rfl⟩
        · rw [List.mem_singleton.mp h]; exact .inr rfl
      · exact .inl ⟨y, dl_mem h, rfl⟩
    · split at h
      · rcases List.mem_append.mp h with h | h
        · exact .inl ⟨y, h, rfl⟩
        · rw [List.mem_singleton.mp h]; exact .inr rfl
      · exact .inl ⟨y, h, rfl⟩
theorem times_mem {a b : Row} {y : Itm} (h : y ∈ timesL a b) : (∃ z ∈ a, z.1 = y.1) ∨ ∃ z ∈ b, z.1 = y.1 := by
  unfold timesL at h
  induction b generalizing a with
  | nil => exact .inl ⟨y, h, rfl⟩
  | cons x b ih =>
    rcases ih h with ⟨z, hz, e⟩ | ⟨z, hz, e⟩
    · rcases mrg_mem hz with ⟨w, hw, e2⟩ | e2
      · exact .inl ⟨w, hw, e2.trans e⟩
      · exact .inr ⟨x, List.mem_cons_self, by rw [← e2, e]⟩
    · exact .inr ⟨z, List.mem_cons_of_mem _ hz, e⟩
theorem mrg_bits {r : Row} {x y : Itm} {B : Nat} (hr : ∀ z ∈ r, intBits z.2 ≤ B) (hx : intBits x.2 ≤ B) (h : y ∈ mrg r x) : intBits y.2 ≤ B + 1 := by
  cases hl : r.getLast? with
  | none =>
    have hr0 : r = [] := List.getLast?_eq_none_iff.mp hl
    subst hr0
    rw [mrg_nil] at h
    split at h
    · rw [List.mem_singleton.mp h]; exact bits_le hx (by omega)
    · cases h
  | some l =>
    rw [mrg_some hl] at h
    split at h
    · split at h
      · rcases List.mem_append.mp h with h | h
        · exact bits_le (hr y (dl_mem h)) (by omega)
        · rw [List.mem_singleton.mp h]; exact bits_add (hr l (List.mem_of_getLast? hl)) hx
      · exact bits_le (hr y (dl_mem h)) (by omega)
    · split at h
      · rcases List.mem_append.mp h with h | h
        · exact bits_le (hr y h) (by omega)
        · rw [List.mem_singleton.mp h]; exact bits_le hx (by omega)
      · exact bits_le (hr y h) (by omega)
theorem times_bits {a b : Row} {y : Itm} {B : Nat} (hr : ∀ z ∈ a, intBits z.2 ≤ B) (hx : ∀ z ∈ b, intBits z.2 ≤ B) (h : y ∈ timesL a b) : intBits y.2 ≤ B + b.length := by
  unfold timesL at h
  induction b generalizing a B with
  | nil => exact hr y h
  | cons x b ih =>
    have := ih (B := B + 1) (fun z hz => mrg_bits hr (hx x List.mem_cons_self) hz) (fun z hz => bits_le (hx z (List.mem_cons_of_mem _ hz)) (by omega)) h
    rw [List.length_cons]
    omega
theorem times_len {a b : Row} : (timesL a b).length ≤ a.length + b.length := by
  unfold timesL
  induction b generalizing a with
  | nil => exact Nat.le_refl _
  | cons x b ih =>
    have h1 := ih (a := mrg a x)
    have h2 := mrg_len a x
    rw [List.length_cons, List.foldl_cons]
    omega
/-- a prefix of one row, then places of a side -/
def Pre (s : Side) (a r : Row) : Prop := ∃ n tail, r = a.take n ++ tail ∧ n ≤ a.length ∧ (∀ x ∈ tail, ins s x.1 = true) ∧ ∀ x ∈ a.drop n, ins s x.1 = true
theorem mrg_pre {s : Side} {a r : Row} {x : Itm} (hx : ins s x.1 = true) (h : Pre s a r) : Pre s a (mrg r x) := by
  obtain ⟨n, tail, hr, hn, ht, hd⟩ := h
  have grow : Pre s a (r ++ [x]) := ⟨n, tail ++ [x], by rw [hr, List.append_assoc], hn, fun y hy => by
    rcases List.mem_append.mp hy with hy | hy
    · exact ht y hy
    · rw [List.mem_singleton.mp hy]; exact hx, hd⟩
  have same : Pre s a r := ⟨n, tail, hr, hn, ht, hd⟩
  cases hl : r.getLast? with
  | none =>
    have hr0 : r = [] := List.getLast?_eq_none_iff.mp hl
    subst hr0
    rw [mrg_nil]
    split
    · exact grow
    · exact same
  | some l =>
    rw [mrg_some hl]
    by_cases e : l.1 = x.1
    · rw [if_pos e]
      have base : Pre s a r.dropLast := by
        by_cases htl : tail = []
        · subst htl
          rw [List.append_nil] at hr
          have hs := last_split hl
          have hlen : r.length = n := by rw [hr, List.length_take]; exact Nat.min_eq_left hn
          have hpos : 0 < n := by rw [← hlen]; exact List.length_pos_iff.mpr (by rintro rfl; cases hl)
          have hel : a[n - 1]? = some l := by
            rw [List.getLast?_eq_getElem?, hlen, hr, List.getElem?_take_of_lt (by omega)] at hl
            exact hl
          refine ⟨n - 1, [], ?_, by omega, (fun y hy => by cases hy), fun y hy => ?_⟩
          · rw [List.append_nil, List.dropLast_eq_take, hlen, hr, List.take_take, Nat.min_eq_left (by omega)]
          · have hlt : n - 1 < a.length := by omega
            rw [List.drop_eq_getElem_cons hlt, Nat.sub_add_cancel hpos] at hy
            rcases List.mem_cons.mp hy with hy | hy
            · rw [List.getElem?_eq_getElem hlt] at hel
              cases hel
              rw [hy, e]
              exact hx
            · exact hd y hy
        · refine ⟨n, tail.dropLast, ?_, hn, fun y hy => ht y (dl_mem hy), hd⟩
          rw [hr, List.dropLast_append_of_ne_nil htl]
      split
      · obtain ⟨n, tail, hr, hn, ht, hd⟩ := base
        refine ⟨n, tail ++ [(x.1, l.2 + x.2)], by rw [hr, List.append_assoc], hn, fun y hy => ?_, hd⟩
        rcases List.mem_append.mp hy with hy | hy
        · exact ht y hy
        · rw [List.mem_singleton.mp hy]; exact hx
      · exact base
    · rw [if_neg e]
      split
      · exact grow
      · exact same
theorem times_pre {s : Side} {a b r : Row} (hb : ∀ x ∈ b, ins s x.1 = true) (h : Pre s a r) : Pre s a (timesL r b) := by
  unfold timesL
  induction b generalizing r with
  | nil => exact h
  | cons x b ih => exact ih (fun y hy => hb y (List.mem_cons_of_mem _ hy)) (mrg_pre (hb x List.mem_cons_self) h)
theorem cutAt_spec {s : Side} {row : Row} : ∀ c, c ≤ row.length → (∀ i x, cutAt s row c ≤ i → i < c → row[i]? = some x → ins s x.1 = true) ∧ (0 < cutAt s row c → ∃ x, row[cutAt s row c - 1]? = some x ∧ ins s x.1 = false)
  | 0, _ => ⟨fun i x _ h => by omega, fun h => by simp [cutAt] at h⟩
  | c + 1, hc => by
    have hx : row[c]? = some row[c] := List.getElem?_eq_getElem (by omega)
    rw [cutAt_succ hx]
    obtain ⟨h1, h2⟩ := cutAt_spec (s := s) (row := row) c (by omega)
    cases hi : ins s row[c].1 with
    | true =>
      simp only [if_true]
      refine ⟨fun i x a b e => ?_, h2⟩
      by_cases hic : i = c
      · subst hic; rw [hx] at e; cases e; exact hi
      · exact h1 i x a (by omega) e
    | false =>
      simp only [Bool.false_eq_true, if_false]
      exact ⟨fun i x a b e => by omega, fun _ => ⟨_, by rw [Nat.add_sub_cancel]; exact hx, hi⟩⟩
/-- what is cut off ahead is a prefix of the row ahead, the rest of which lies inside -/
theorem pre_cut {s : Side} {a r : Row} (h : Pre s a r) : ∃ c, c ≤ a.length ∧ r.take (cutN s r) = a.take c ∧ ∀ x ∈ a.drop c, ins s x.1 = true := by
  obtain ⟨n, tail, hr, hn, ht, hd⟩ := h
  obtain ⟨h1, h2⟩ := cutAt_spec (s := s) (row := r) r.length (Nat.le_refl _)
  have hln : (a.take n).length = n := by rw [List.length_take]; exact Nat.min_eq_left hn
  have hcl : cutAt s r r.length ≤ r.length := cutAt_le _
  show ∃ c, c ≤ a.length ∧ r.take (cutAt s r r.length) = a.take c ∧ _
  generalize cutAt s r r.length = c at *
  have hle : c ≤ n := by
    rcases Nat.lt_or_ge n c with q | q
    · exfalso
      obtain ⟨x, hx, hi⟩ := h2 (by omega)
      rw [hr, List.getElem?_append_right (by omega)] at hx
      have := ht x (List.mem_of_getElem? hx)
      rw [hi] at this
      cases this
    · exact q
  refine ⟨c, by omega, ?_, fun x hx => ?_⟩
  · rw [hr, List.take_append_of_le_length (by omega), List.take_take, Nat.min_eq_left hle]
  · obtain ⟨i, hi⟩ := List.getElem?_of_mem hx
    rw [List.getElem?_drop] at hi
    rcases Nat.lt_or_ge (c + i) n with q | q
    · have hrx : r[c + i]? = some x := by
        rw [hr, List.getElem?_append_left (by omega), List.getElem?_take_of_lt q]
        exact hi
      exact h1 (c + i) x (by omega) (List.getElem?_eq_some_iff.mp hrx).1 hrx
    · refine hd x ?_
      have : (a.drop n)[c + i - n]? = some x := by rw [List.getElem?_drop, Nat.add_sub_cancel' q]; exact hi
      exact List.mem_of_getElem? this
def negI (x : Itm) : Itm := (x.1, -x.2)
theorem mrg_undo {r : Row} {x : Itm} : mrg (r ++ [negI x]) x = r := by
  rw [mrg_some (l := negI x) (by simp)]
  have : (negI x).2 + x.2 = 0 := by simp only [negI]; omega
  have e0 : (negI x).1 = x.1 := rfl
  rw [if_pos e0, if_neg (by rw [this]; simp), List.dropLast_concat]
/-- a row behind its own inverse -/
theorem times_undo : ∀ (a b : Row), timesL ((a.map negI).reverse) (a ++ b) = timesL [] b
  | [], b => rfl
  | x :: a, b => by
    rw [List.map_cons, List.reverse_cons, List.cons_append]
    show timesL (mrg _ x) (a ++ b) = _
    rw [mrg_undo]
    exact times_undo a b
/-! ### the law's turn -/
theorem step_nx {C : Cfg} {s : G.S} {ss : Ss} {ρ ρ' : G.Env} {S S' : Sto} (h : exS C s ρ S = .ok .nx ρ' S') : exSs C (.cons s ss) ρ S = exSs C ss ρ' S' := by
  rw [exs_cons, h, next_nx]
abbrev B0 : Ss := fbody (nth f_law.body 0)
theorem rowB {r : Row} {n : Nat} {Q : Pl → Prop} (h : Dr Q n r) (hn : n ≤ 60) (hq : ∀ p, Q p → BitQ p) : RowB r :=
  ⟨Nat.le_trans h.len hn, fun x hx => bits_le (hq _ (h.q x hx)).1 (by decide), fun x hx => bits_le (hq _ (h.q x hx)).2 (by decide), fun x hx => bits_le (h.e x hx) (by decide)⟩
theorem times_rowB {a b : Row} {n m : Nat} {Q R : Pl → Prop} (ha : Dr Q n a) (hb : Dr R m b) (hn : n + m ≤ 60) (hq : ∀ p, Q p → BitQ p) (hr : ∀ p, R p → BitQ p) : RowB (timesL a b) := by
  have l1 := ha.len
  have l2 := hb.len
  have l3 := times_len (a := a) (b := b)
  have pl : ∀ y ∈ timesL a b, BitQ y.1 := fun y hy => by
    rcases times_mem hy with ⟨z, hz, e⟩ | ⟨z, hz, e⟩
    · rw [← e]; exact hq _ (ha.q z hz)
    · rw [← e]; exact hr _ (hb.q z hz)
  refine ⟨by omega, fun x hx => bits_le (pl x hx).1 (by decide), fun x hx => bits_le (pl x hx).2 (by decide), fun x hx => bits_le (times_bits (B := 101) (fun z hz => ha.e z hz) (fun z hz => hb.e z hz) hx) (by omega)⟩
theorem RowB.rev {r : Row} (h : RowB r) : RowB r.reverse :=
  ⟨by rw [List.length_reverse]; exact h.len, fun x hx => h.p x (List.mem_reverse.mp hx), fun x hx => h.q x (List.mem_reverse.mp hx), fun x hx => h.e x (List.mem_reverse.mp hx)⟩
theorem cnt4 {n : Int} {a b c d : Nat} (hn : n ∈ ([(a : Int), b, c, d] : List Int)) (h : a ≤ 8 ∧ b ≤ 8 ∧ c ≤ 8 ∧ d ≤ 8) : ∃ m : Nat, n = m ∧ m ≤ 8 := by
  simp only [List.mem_cons, List.not_mem_nil, or_false] at hn
  rcases hn with rfl | rfl | rfl | rfl
  · exact ⟨a, rfl, by omega⟩
  · exact ⟨b, rfl, by omega⟩
  · exact ⟨c, rfl, by omega⟩
  · exact ⟨d, rfl, by omega⟩
theorem ix_eE {r : Row} {p : Pl} {S : Sto} : ixD (eE r p) (.int 0) S = .ok (eR r) S := rfl
theorem rev_eR {r : Row} {S : Sto} : revD (eR r) S = .ok (eR r.reverse) S := by simp [eR]
theorem tup_eE {r : Row} {p : Pl} : D.tup [eR r, eP p] = eE r p := rfl
theorem tup_eE0 {p : Pl} : D.tup [.tup [], eP p] = eE [] p := rfl
theorem tup_eEz {r : Row} : D.tup [eR r, .tup [.int 0, .int 0]] = eE r (0, 0) := rfl
theorem turn_ok {k : Nat} {S : Sto} {ns : List Int} {q : Int} {x2 x3 x4 x5 x6 x7 x8 x9 x10 x11 x12 x13 x14 x15 : Option D} (g : Good S) (hn : ns.length ≤ 63) (hb : ∀ z ∈ ns, intBits z ≤ 1048576) (hq : 0 ≤ q) (hq2 : q ≤ 10) :
    ∃ S' y2 y3 y4 y5 y6 y7 y8 y9 y10 y11 y12 y13 y14 y15, exSs ⟨callF Fs gl0 1000000 (k + 7), 1000000, gl0⟩ B0 [some (.fl (ns.map .int)), some (.int q), x2, x3, x4, x5, x6, x7, x8, x9, x10, x11, x12, x13, x14, x15] S =
      .ok .nx [some (.fl (ns.map .int)), some (.int q), y2, y3, y4, y5, y6, y7, y8, y9, y10, y11, y12, y13, y14, y15] S' ∧ Good S' := by
  obtain ⟨X, M, e1, g1, m1, _, _⟩ := begunA_ok (F := Fs) (gl := gl0) (wf := 1000000) (k := k + 6) (i := 5) (S := S) (ns := ns) (q := q) (a0 := 71) (a1 := 53) (a2 := 11) rfl g hn hb hq hq2 (by decide) (by decide) (by decide)
  generalize S ++ X = S1 at e1 g1 m1
  obtain ⟨s, S2, e2, hs, st2⟩ := side_ok (k := k + 4) g1 m1 (by omega)
  have e2' : callF Fs gl0 1000000 (k + 7) 9 [.ref M.n] S1 = .ok (eS s) S2 := e2
  obtain ⟨odd, S3, e3, o0, o1, st3⟩ := dr (k := k + 6) 2 st2.good st2.mach (by omega) (by decide) (bits_le (a := 2) (bits_small (by decide)) (by decide))
  have p1 : exS ⟨callF Fs gl0 1000000 (k + 7), 1000000, gl0⟩ (nth B0 0) [some (.fl (ns.map .int)), some (.int q), x2, x3, x4, x5, x6, x7, x8, x9, x10, x11, x12, x13, x14, x15] S =
      .ok .nx [some (.fl (ns.map .int)), some (.int q), some (.ref M.n), x3, x4, x5, x6, x7, x8, x9, x10, x11, x12, x13, x14, x15] S1 := by
    simp [B0, f_law, nth, fbody, e1]
  have p2 : exS ⟨callF Fs gl0 1000000 (k + 7), 1000000, gl0⟩ (nth B0 1) [some (.fl (ns.map .int)), some (.int q), some (.ref M.n), x3, x4, x5, x6, x7, x8, x9, x10, x11, x12, x13, x14, x15] S1 =
      .ok .nx [some (.fl (ns.map .int)), some (.int q), some (.ref M.n), some (eS s), some (.int odd), x5, x6, x7, x8, x9, x10, x11, x12, x13, x14, x15] S3 := by
    simp [B0, f_law, nth, fbody, e2', e3]
  obtain ⟨n1, S4, e4, hn1, r4, _, _⟩ := ofI (k := k + 5) [0, 1, 2, 4] st3.good st3.mach (by omega) (by simp) (by simp)
  obtain ⟨n1, rfl, n1l⟩ := cnt4 (a := 0) (b := 1) (c := 2) (d := 4) hn1 (by decide)
  obtain ⟨en, es, S5, e5, den, hes, st5⟩ := inside_ok (k := k + 2) (n := n1) hs r4.good r4.mach n1l (by omega)
  have e5' : callF Fs gl0 1000000 (k + 7) 17 [.ref M.n, eS s, .int n1] S4 = .ok (eE en es) S5 := e5
  simp only [List.map_cons, List.map_nil] at e4
  have p3 : exS ⟨callF Fs gl0 1000000 (k + 7), 1000000, gl0⟩ (nth B0 2) [some (.fl (ns.map .int)), some (.int q), some (.ref M.n), some (eS s), some (.int odd), x5, x6, x7, x8, x9, x10, x11, x12, x13, x14, x15] S3 =
      .ok .nx [some (.fl (ns.map .int)), some (.int q), some (.ref M.n), some (eS s), some (.int odd), some (eE en es), x6, x7, x8, x9, x10, x11, x12, x13, x14, x15] S5 := by
    simp [B0, f_law, nth, fbody, e4, e5']
  obtain ⟨n2, S6, e6, hn2, r6, _, _⟩ := ofI (k := k + 5) [0, 1, 3, 6] st5.good st5.mach (by omega) (by simp) (by simp)
  obtain ⟨n2, rfl, n2l⟩ := cnt4 (a := 0) (b := 1) (c := 3) (d := 6) hn2 (by decide)
  have hpsu : Ob.under (S6.length + 1) (.lst ((en.map (·.1)).map eP)) = true := by
    simp only [Ob.under, underAll_iff]
    intro d hd
    obtain ⟨x, _, rfl⟩ := List.mem_map.mp hd
    exact un_eP x
  have r6' := (Reach.refl r6.good r6.mach).alloc (o := .lst ((en.map (·.1)).map eP)) hpsu
  have enl := den.len
  obtain ⟨row, S7, e7, drow, st7⟩ := row_ok (k := k + 1) (t := S6.length) (n := n2) (ps := en.map (·.1)) hs r6'.good r6'.mach n2l (by omega) (fun p hp => by
    obtain ⟨x, hx, rfl⟩ := List.mem_map.mp hp
    exact (den.q x hx).1) (by rw [List.length_map]; omega) (by simp) (Nat.ne_of_gt r6.mach.lt)
  have e7' : callF Fs gl0 1000000 (k + 7) 14 [.ref M.n, eS s, .int n2, .ref S6.length] (S6 ++ [.lst ((en.map (·.1)).map eP)]) = .ok (eR row) S7 := e7
  simp only [List.map_cons, List.map_nil] at e6
  have p4 : exS ⟨callF Fs gl0 1000000 (k + 7), 1000000, gl0⟩ (nth B0 3) [some (.fl (ns.map .int)), some (.int q), some (.ref M.n), some (eS s), some (.int odd), some (eE en es), x6, x7, x8, x9, x10, x11, x12, x13, x14, x15] S5 =
      .ok .nx [some (.fl (ns.map .int)), some (.int q), some (.ref M.n), some (eS s), some (.int odd), some (eE en es), some (eR row), x7, x8, x9, x10, x11, x12, x13, x14, x15] S7 := by
    simp [B0, f_law, nth, fbody, e6, eE, eR]
    generalize hT : turnOf _ _ _ _ _ _ = turn
    have e1 : lcL turn (en.map eI) [] S6 = .ok ((en.map (·.1)).map eP) S6 := by
      rw [List.map_map]
      exact lcL_map en (fun x _ => by
        rw [← hT]
        simp [turnOf, wipe, eI, eP]) (by rw [lineN_val]; omega)
    rw [e1]
    rw [List.map_map] at e7'
    simp [e7', eR]
  obtain ⟨u, S8, e8, ub, st8⟩ := number_ok (k := k + 4) st7.good st7.mach (by omega)
  obtain ⟨v, S9, e9, vb, st9⟩ := number_ok (k := k + 4) st8.good st8.mach (by omega)
  have e8' : callF Fs gl0 1000000 (k + 7) 10 [.ref M.n] S7 = .ok (.int u) S8 := e8
  have e9' : callF Fs gl0 1000000 (k + 7) 10 [.ref M.n] S8 = .ok (.int v) S9 := e9
  have hsh : PlB (u, v) := ⟨bits_le ub (by decide), bits_le vb (by decide)⟩
  have g9 := st9.good
  have p5 : exS ⟨callF Fs gl0 1000000 (k + 7), 1000000, gl0⟩ (nth B0 4) [some (.fl (ns.map .int)), some (.int q), some (.ref M.n), some (eS s), some (.int odd), some (eE en es), some (eR row), x7, x8, x9, x10, x11, x12, x13, x14, x15] S7 =
      .ok .nx [some (.fl (ns.map .int)), some (.int q), some (.ref M.n), some (eS s), some (.int odd), some (eE en es), some (eR row), some (eP (u, v)), x8, x9, x10, x11, x12, x13, x14, x15] S9 := by
    simp [B0, f_law, nth, fbody, e8', e9', eP]
  have rl := drow.len
  have e10 : callF Fs gl0 1000000 (k + 7) 16 [.tup [eR row, .tup [.int 0, .int 0]], .tup [.tup (en.map eI), eP (u, v)]] S9 = .ok (eE (timesL row en) (u, v)) S9 := times_ok (k := k + 6) row en (u, v) (by omega) (by omega) g9
  have p6 : exS ⟨callF Fs gl0 1000000 (k + 7), 1000000, gl0⟩ (nth B0 5) [some (.fl (ns.map .int)), some (.int q), some (.ref M.n), some (eS s), some (.int odd), some (eE en es), some (eR row), some (eP (u, v)), x8, x9, x10, x11, x12, x13, x14, x15] S9 =
      .ok .nx [some (.fl (ns.map .int)), some (.int q), some (.ref M.n), some (eS s), some (.int odd), some (eE en es), some (eR row), some (eP (u, v)), some (eE (timesL row en) (u, v)), x9, x10, x11, x12, x13, x14, x15] S9 := by
    have : eE en es = .tup [.tup (en.map eI), eP es] := rfl
    rw [this]
    simp [B0, f_law, nth, fbody, e10]
  generalize hW : timesL row en = W at *
  have wB : RowB W := hW ▸ times_rowB drow den (by omega) (fun _ h => h) (fun _ h => h.1)
  have wR : Red W := hW ▸ times_red drow.red en
  obtain ⟨y9, S10, p7, g10, m10⟩ : ∃ y9 S10, exS ⟨callF Fs gl0 1000000 (k + 7), 1000000, gl0⟩ (nth B0 6) [some (.fl (ns.map .int)), some (.int q), some (.ref M.n), some (eS s), some (.int odd), some (eE en es), some (eR row), some (eP (u, v)), some (eE W (u, v)), x9, x10, x11, x12, x13, x14, x15] S9 =
      .ok .nx [some (.fl (ns.map .int)), some (.int q), some (.ref M.n), some (eS s), some (.int odd), some (eE en es), some (eR row), some (eP (u, v)), some (eE W (u, v)), y9, x10, x11, x12, x13, x14, x15] S10 ∧ Good S10 ∧ ∃ B, B ≤ 10000 ∧ Mach M S10 B := by
    obtain ⟨ds, hds⟩ : ∃ ds, ds = [eE W (u, v), eE row (u, v), eE en (u, v), eE W.reverse (u, v), eE [] (u, v)] := ⟨_, rfl⟩
    have hdm : ∀ d ∈ ds, ∃ r, d = eE r (u, v) ∧ RowB r ∧ Red r := fun d hd => by
      rw [hds] at hd
      simp only [List.mem_cons, List.not_mem_nil, or_false] at hd
      rcases hd with rfl | rfl | rfl | rfl | rfl
      · exact ⟨W, rfl, wB, wR⟩
      · exact ⟨row, rfl, rowB drow (by omega) (fun _ h => h), drow.red⟩
      · exact ⟨en, rfl, rowB den (by omega) (fun _ h => h.1), den.red⟩
      · exact ⟨W.reverse, rfl, wB.rev, red_rev wR⟩
      · exact ⟨[], rfl, rowB (Dr.nil (Q := BitQ)) (by omega) (fun _ h => h), Dr.nil (Q := BitQ).red⟩
    have hgood : Good (S9 ++ [.lst ds]) := g9.app (by
      simp only [Ob.under, underAll_iff]
      intro d hd
      obtain ⟨r, rfl, _⟩ := hdm d hd
      exact un_eE _ _)
    generalize hbod : bodyOf ⟨callF Fs gl0 1000000 (k + 7), 1000000, gl0⟩ (.n 9) (fbody (nth B0 6)) = bod
    obtain ⟨ρ', S', e11, rfl, y9, rfl⟩ := forGo_liv (b := bod) (n := S9.length) (m := ds.length) (ds := ds)
      (fun i ρ S' => S' = S9 ++ [.lst ds] ∧ ∃ y9, ρ = [some (.fl (ns.map .int)), some (.int q), some (.ref M.n), some (eS s), some (.int odd), some (eE en es), some (eR row), some (eP (u, v)), some (eE W (u, v)), y9, x10, x11, x12, x13, x14, x15])
      (fun i ρ S' h => by rw [h.1]; simp) (Nat.le_refl _) (fun i d ρ S' hd h => by
        obtain ⟨rfl, y9, rfl⟩ := h
        have hm : d ∈ ds := List.mem_of_getElem? hd
        obtain ⟨r, rfl, hrr⟩ := hdm d hm
        have e12 : callF Fs gl0 1000000 (k + 7) 21 [eS s, eE r (u, v)] (S9 ++ [.lst ds]) = .ok (.bl true) (S9 ++ [.lst ds]) := cr_ok (k := k + 4) hs hrr.1 hsh hrr.2 hgood
        refine ⟨_, _, .inl ?_, rfl, some (eE r (u, v)), rfl⟩
        rw [← hbod]
        simp [B0, f_law, nth, fbody, bodyOf, e12]) (ds.length + 1) 0 [some (.fl (ns.map .int)), some (.int q), some (.ref M.n), some (eS s), some (.int odd), some (eE en es), some (eR row), some (eP (u, v)), some (eE W (u, v)), x9, x10, x11, x12, x13, x14, x15] (S9 ++ [.lst ds]) ⟨rfl, x9, rfl⟩ (Nat.zero_le _) (by omega)
    refine ⟨y9, S9 ++ [.lst ds], ?_, hgood, _, ?_, st9.mach.wide⟩
    · have hl : ds.length = 5 := by rw [hds]; rfl
      rw [hl] at e11
      simp [B0, f_law, nth, fbody, ix_eE, rev_eR, tup_eE, tup_eE0]
      rw [← hds]
      generalize hb2 : bodyOf _ _ _ = bod2
      have : bod2 = bod := by rw [← hb2, ← hbod]; rfl
      rw [this]
      exact e11
    · omega
  obtain ⟨B, hB, m10⟩ := m10
  obtain ⟨ahead, S11, e11, dah, st11⟩ := mixed_ok (k := k + 1) (odd := odd) hs g10 m10 (by omega)
  have e11' : callF Fs gl0 1000000 (k + 7) 19 [.ref M.n, eS s, .int odd] S10 = .ok (eR ahead) S11 := e11
  have g11 := st11.good
  have al := dah.len
  have e12 : callF Fs gl0 1000000 (k + 7) 16 [eE ahead (0, 0), eE en es] S11 = .ok (eE (timesL ahead en) es) S11 := times_ok (k := k + 6) ahead en es (by omega) (by omega) g11
  have hpre : Pre s ahead (timesL ahead en) := times_pre (fun x hx => (den.q x hx).2) ⟨ahead.length, [], by simp, Nat.le_refl _, (fun x hx => by cases hx), (fun x hx => by simp at hx)⟩
  have vB : RowB (timesL ahead en) := times_rowB dah den (by omega) (fun _ h => h.1) (fun _ h => h.1)
  have vR : Red (timesL ahead en) := times_red dah.red en
  have vl := vB.len
  obtain ⟨c, hc, htake, hdrop⟩ := pre_cut hpre
  have e13 : callF Fs gl0 1000000 (k + 7) 4 [eS s, eE (timesL ahead en) es] S11 = .ok (.tup [eR ((timesL ahead en).take (cutN s (timesL ahead en))), eE ((timesL ahead en).drop (cutN s (timesL ahead en))) es]) S11 := ls_ok (k := k + 5) hs _ es (by omega) g11
  rw [htake] at e13
  have e14 : callF Fs gl0 1000000 (k + 7) 21 [eS s, eE (timesL ahead en) es] S11 = .ok (.bl true) S11 := cr_ok (k := k + 4) hs vB hes vR g11
  generalize hV : timesL ahead en = V at *
  generalize eE (V.drop (cutN s V)) es = tl at *
  have hpar : ∀ x ∈ ahead, par odd x = true := fun x hx => (dah.q x hx).2
  have e15 : callF Fs gl0 1000000 (k + 7) 20 [eR (ahead.take c), .int odd] S11 = .ok (.bl true) S11 := odd_ok (k := k + 6) (ahead.take c) odd (by rw [List.length_take]; omega) (fun x hx => hpar x (List.mem_of_mem_take hx)) g11
  have p8 : exS ⟨callF Fs gl0 1000000 (k + 7), 1000000, gl0⟩ (nth B0 7) [some (.fl (ns.map .int)), some (.int q), some (.ref M.n), some (eS s), some (.int odd), some (eE en es), some (eR row), some (eP (u, v)), some (eE W (u, v)), y9, x10, x11, x12, x13, x14, x15] S10 =
      .ok .nx [some (.fl (ns.map .int)), some (.int q), some (.ref M.n), some (eS s), some (.int odd), some (eE en es), some (eR row), some (eP (u, v)), some (eE W (u, v)), y9, some (eR ahead), x11, x12, x13, x14, x15] S11 := by
    simp [B0, f_law, nth, fbody, e11']
  have p9 : exS ⟨callF Fs gl0 1000000 (k + 7), 1000000, gl0⟩ (nth B0 8) [some (.fl (ns.map .int)), some (.int q), some (.ref M.n), some (eS s), some (.int odd), some (eE en es), some (eR row), some (eP (u, v)), some (eE W (u, v)), y9, some (eR ahead), x11, x12, x13, x14, x15] S11 =
      .ok .nx [some (.fl (ns.map .int)), some (.int q), some (.ref M.n), some (eS s), some (.int odd), some (eE en es), some (eR row), some (eP (u, v)), some (eE W (u, v)), some (eE V es), some (eR ahead), x11, x12, x13, x14, x15] S11 := by
    simp [B0, f_law, nth, fbody, tup_eEz, e12]
  have p10 : exS ⟨callF Fs gl0 1000000 (k + 7), 1000000, gl0⟩ (nth B0 9) [some (.fl (ns.map .int)), some (.int q), some (.ref M.n), some (eS s), some (.int odd), some (eE en es), some (eR row), some (eP (u, v)), some (eE W (u, v)), some (eE V es), some (eR ahead), x11, x12, x13, x14, x15] S11 =
      .ok .nx [some (.fl (ns.map .int)), some (.int q), some (.ref M.n), some (eS s), some (.int odd), some (eE en es), some (eR row), some (eP (u, v)), some (eE W (u, v)), some (eE V es), some (eR ahead), some (.tup [eR (ahead.take c), tl]), x12, x13, x14, x15] S11 := by
    simp [B0, f_law, nth, fbody, e13]
  have p11 : exS ⟨callF Fs gl0 1000000 (k + 7), 1000000, gl0⟩ (nth B0 10) [some (.fl (ns.map .int)), some (.int q), some (.ref M.n), some (eS s), some (.int odd), some (eE en es), some (eR row), some (eP (u, v)), some (eE W (u, v)), some (eE V es), some (eR ahead), some (.tup [eR (ahead.take c), tl]), x12, x13, x14, x15] S11 =
      .ok .nx [some (.fl (ns.map .int)), some (.int q), some (.ref M.n), some (eS s), some (.int odd), some (eE en es), some (eR row), some (eP (u, v)), some (eE W (u, v)), some (eE V es), some (eR ahead), some (.tup [eR (ahead.take c), tl]), x12, x13, x14, x15] S11 := by
    simp [B0, f_law, nth, fbody, e14, e15]
  have tl1 : (ahead.take c).length ≤ 4 := by rw [List.length_take]; omega
  obtain ⟨S12, p12, g12⟩ : ∃ S12, exS ⟨callF Fs gl0 1000000 (k + 7), 1000000, gl0⟩ (nth B0 11) [some (.fl (ns.map .int)), some (.int q), some (.ref M.n), some (eS s), some (.int odd), some (eE en es), some (eR row), some (eP (u, v)), some (eE W (u, v)), some (eE V es), some (eR ahead), some (.tup [eR (ahead.take c), tl]), x12, x13, x14, x15] S11 =
      .ok .nx [some (.fl (ns.map .int)), some (.int q), some (.ref M.n), some (eS s), some (.int odd), some (eE en es), some (eR row), some (eP (u, v)), some (eE W (u, v)), some (eE V es), some (eR ahead), some (.tup [eR (ahead.take c), tl]), some (eR (((ahead.take c).map negI).reverse)), x13, x14, x15] S12 ∧ Good S12 := by
    refine ⟨S11 ++ [.lst ((((ahead.take c).map negI).reverse).map eI)], ?_, g11.app (row_under _)⟩
    have hR : eR (ahead.take c).reverse = .tup ((ahead.take c).reverse.map eI) := rfl
    simp only [B0, f_law, nth, fbody, ex_asg, ev_blt, evs_cons, evs_nil, ev_lc, evi_of, ev_rev, ev_ix, ev_v, ev_k, getV_zero, getV_succ, bind_ok, ix_tup0, atI_0, rev_eR]
    rw [hR]
    simp only [toW_tup, bind_ok]
    generalize hT : turnOf _ _ _ _ _ _ = turn
    have e1 : lcL turn ((ahead.take c).reverse.map eI) [] S11 = .ok ((ahead.take c).reverse.map fun x => eI (negI x)) S11 := lcL_map _ (fun x _ => by
      rw [← hT]
      simp [turnOf, wipe, eI, eP, negI]) (by rw [List.length_reverse, lineN_val]; omega)
    have e2 : (ahead.take c).reverse.map (fun x => eI (negI x)) = (((ahead.take c).map negI).reverse).map eI := by
      rw [← List.map_reverse, List.map_map]; rfl
    rw [lc_its, e1, e2]
    simp only [bind_ok, alloc_ok, tuple_ref at_0, st_ok, asgR_n]
    rfl
  have hbk : (((ahead.take c).map negI).reverse).length ≤ 4 := by rw [List.length_reverse, List.length_map]; exact tl1
  have hund : timesL (((ahead.take c).map negI).reverse) ahead = timesL [] (ahead.drop c) := by
    have := times_undo (ahead.take c) (ahead.drop c)
    rw [List.take_append_drop] at this
    exact this
  have e16 : callF Fs gl0 1000000 (k + 7) 16 [eE (((ahead.take c).map negI).reverse) (0, 0), eE ahead (0, 0)] S12 = .ok (eE (timesL [] (ahead.drop c)) (0, 0)) S12 := by
    rw [← hund]
    exact times_ok (k := k + 6) _ ahead (0, 0) (by omega) (by omega) g12
  generalize hbk2 : ((ahead.take c).map negI).reverse = bk at *
  have hbt : ∀ y ∈ timesL [] (ahead.drop c), ins s y.1 = true ∧ par odd y = true := fun y hy => by
    rcases times_mem hy with ⟨z, hz, _⟩ | ⟨z, hz, e⟩
    · cases hz
    · have h1 := hdrop z hz
      have h2 := hpar z (List.mem_of_mem_drop hz)
      refine ⟨by rw [← e]; exact h1, ?_⟩
      unfold par at h2 ⊢
      rw [← e]
      exact h2
  have hbl : (timesL [] (ahead.drop c)).length ≤ 4 := by
    have := times_len (a := []) (b := ahead.drop c)
    rw [List.length_drop, List.length_nil] at this
    omega
  generalize timesL [] (ahead.drop c) = bt at *
  have p13 : exS ⟨callF Fs gl0 1000000 (k + 7), 1000000, gl0⟩ (nth B0 12) [some (.fl (ns.map .int)), some (.int q), some (.ref M.n), some (eS s), some (.int odd), some (eE en es), some (eR row), some (eP (u, v)), some (eE W (u, v)), some (eE V es), some (eR ahead), some (.tup [eR (ahead.take c), tl]), some (eR bk), x13, x14, x15] S12 =
      .ok .nx [some (.fl (ns.map .int)), some (.int q), some (.ref M.n), some (eS s), some (.int odd), some (eE en es), some (eR row), some (eP (u, v)), some (eE W (u, v)), some (eE V es), some (eR ahead), some (.tup [eR (ahead.take c), tl]), some (eR bk), some (eE bt (0, 0)), x14, x15] S12 := by
    simp [B0, f_law, nth, fbody, tup_eEz, e16]
  have e17 : callF Fs gl0 1000000 (k + 7) 20 [eR bt, .int odd] S12 = .ok (.bl true) S12 := odd_ok (k := k + 6) bt odd (by omega) (fun x hx => (hbt x hx).2) g12
  have p14 : exS ⟨callF Fs gl0 1000000 (k + 7), 1000000, gl0⟩ (nth B0 13) [some (.fl (ns.map .int)), some (.int q), some (.ref M.n), some (eS s), some (.int odd), some (eE en es), some (eR row), some (eP (u, v)), some (eE W (u, v)), some (eE V es), some (eR ahead), some (.tup [eR (ahead.take c), tl]), some (eR bk), some (eE bt (0, 0)), x14, x15] S12 =
      .ok .nx [some (.fl (ns.map .int)), some (.int q), some (.ref M.n), some (eS s), some (.int odd), some (eE en es), some (eR row), some (eP (u, v)), some (eE W (u, v)), some (eE V es), some (eR ahead), some (.tup [eR (ahead.take c), tl]), some (eR bk), some (eE bt (0, 0)), x14, x15] S12 := by
    simp [B0, f_law, nth, fbody, ix_eE, e17]
  obtain ⟨S13, p15, g13⟩ : ∃ S13, exS ⟨callF Fs gl0 1000000 (k + 7), 1000000, gl0⟩ (nth B0 14) [some (.fl (ns.map .int)), some (.int q), some (.ref M.n), some (eS s), some (.int odd), some (eE en es), some (eR row), some (eP (u, v)), some (eE W (u, v)), some (eE V es), some (eR ahead), some (.tup [eR (ahead.take c), tl]), some (eR bk), some (eE bt (0, 0)), x14, x15] S12 =
      .ok .nx [some (.fl (ns.map .int)), some (.int q), some (.ref M.n), some (eS s), some (.int odd), some (eE en es), some (eR row), some (eP (u, v)), some (eE W (u, v)), some (eE V es), some (eR ahead), some (.tup [eR (ahead.take c), tl]), some (eR bk), some (eE bt (0, 0)), x14, x15] S13 ∧ Good S13 := by
    refine ⟨S12 ++ [.lst []] ++ [.lst []], ?_, (g12.app (by simp [Ob.under, underAll])).app (by simp [Ob.under, underAll])⟩
    have hR : eR bt = .tup (bt.map eI) := rfl
    simp only [B0, f_law, nth, fbody, ex_ite, evt_cmp, ev_cmp, ev_lc, evi_of, ev_ix, ev_v, ev_k, getV_zero, getV_succ, bind_ok, ix_eE]
    rw [hR]
    simp only [toW_tup, bind_ok]
    generalize hT : turnOf _ _ _ _ _ _ = turn
    have e1 : lcL turn (bt.map eI) [] S12 = .ok ([] ++ (bt.map eI).filterMap fun _ => none) S12 := lcL_pure (g := fun _ => none) _ _ (fun d hd => by
      obtain ⟨x, hx, rfl⟩ := List.mem_map.mp hd
      have hi : callF Fs gl0 1000000 (k + 7) 15 [eS s, .tup [.int x.1.1, .int x.1.2]] S12 = .ok (.bl (ins s x.1)) S12 := isof_ok (k := k + 6) hs x.1
      rw [(hbt x hx).1] at hi
      rw [← hT]
      simp [turnOf, wipe, eI, eP, hi]) (by simp; omega)
    have e2 : ((bt.map eI).filterMap fun _ => (none : Option D)) = [] := by
      induction bt.map eI with
      | nil => rfl
      | cons d ds ih => rw [List.filterMap_cons]; exact ih
    have h3 := ne_row (S := S12 ++ [Ob.lst []]) (n := S12.length) (r := []) (by simp)
    rw [lc_its, e1, e2]
    simp at h3
    simp [h3]
  exact ⟨S13, _, _, _, _, _, _, _, _, _, _, _, _, _, _, ((step_nx p1).trans ((step_nx p2).trans ((step_nx p3).trans ((step_nx p4).trans ((step_nx p5).trans ((step_nx p6).trans ((step_nx p7).trans ((step_nx p8).trans ((step_nx p9).trans ((step_nx p10).trans ((step_nx p11).trans ((step_nx p12).trans ((step_nx p13).trans ((step_nx p14).trans ((step_nx p15).trans exs_nil))))))))))))))), g13⟩
theorem law_ok {k : Nat} {ns : List Int} (hn : ns.length ≤ 63) (hb : ∀ z ∈ ns, intBits z ≤ 1048576) : ∃ S', callF Fs gl0 1000000 (k + 8) 22 [.fl (ns.map .int)] [] = .ok (.bl true) S' := by
  show ∃ S', callF Fs gl0 1000000 (k + 7 + 1) 22 _ _ = .ok (.bl true) S'
  rw [callF_at (fd := f_law) rfl rfl]
  obtain ⟨n, hn1, hn2⟩ : ∃ n : Nat, n ≤ 5 ∧ (if 2 < (if (5 : Int) < (ns.length : Int) then (5 : Int) else ns.length) then (if (5 : Int) < (ns.length : Int) then (5 : Int) else ns.length) else 2) = n := by
    refine ⟨(if 2 < (if (5 : Int) < (ns.length : Int) then (5 : Int) else ns.length) then (if (5 : Int) < (ns.length : Int) then (5 : Int) else ns.length) else 2).toNat, ?_, ?_⟩ <;> split <;> (try split) <;> omega
  have hr1 : ((n : Nat) : Int).natAbs < 2 ^ 62 := by omega
  have e0 : exS ⟨callF Fs gl0 1000000 (k + 7), 1000000, gl0⟩ (nth f_law.body 0) (G.start 16 [.fl (ns.map .int)]) [] = forL (bodyOf ⟨callF Fs gl0 1000000 (k + 7), 1000000, gl0⟩ (.n 1) B0) (rangeL 0 n) (G.start 16 [.fl (ns.map .int)]) [] := by
    simp only [f_law, nth, ex_for, evi_rng1, ev_blt, evs_cons, evs_nil, ev_k, ev_v, bind_ok, G.start]
    simp [-for_its]
    rw [hn2, rng1_int hr1, st_ok, for_its]
    rfl
  obtain ⟨ρ', S', e1, _⟩ := forL_ok (b := bodyOf ⟨callF Fs gl0 1000000 (k + 7), 1000000, gl0⟩ (.n 1) B0)
    (fun ds ρ S => ∃ (m : Nat) (lo : Int), ds = rangeL lo m ∧ 0 ≤ lo ∧ lo + m ≤ 5 ∧ Good S ∧ ∃ x1 x2 x3 x4 x5 x6 x7 x8 x9 x10 x11 x12 x13 x14 x15, ρ = [some (.fl (ns.map .int)), x1, x2, x3, x4, x5, x6, x7, x8, x9, x10, x11, x12, x13, x14, x15])
    (fun _ _ => True) (fun d ds ρ S hp => by
      obtain ⟨m, lo, e, h0, h1, g, x1, x2, x3, x4, x5, x6, x7, x8, x9, x10, x11, x12, x13, x14, x15, rfl⟩ := hp
      cases m with
      | zero => simp [rangeL] at e
      | succ m =>
        rw [range_succ] at e
        cases e
        obtain ⟨S', y2, y3, y4, y5, y6, y7, y8, y9, y10, y11, y12, y13, y14, y15, e2, g2⟩ := turn_ok (k := k) (q := lo) (x2 := x2) (x3 := x3) (x4 := x4) (x5 := x5) (x6 := x6) (x7 := x7) (x8 := x8) (x9 := x9) (x10 := x10) (x11 := x11) (x12 := x12) (x13 := x13) (x14 := x14) (x15 := x15) g hn hb h0 (by omega)
        exact .inl ⟨_, S', .inl e2, m, lo + 1, rfl, by omega, by omega, g2, _, _, _, _, _, _, _, _, _, _, _, _, _, _, _, rfl⟩)
    (fun _ _ _ => trivial) (rangeL 0 n) (G.start 16 [.fl (ns.map .int)]) [] ⟨n, 0, rfl, Int.le_refl _, by omega, rfl, _, _, _, _, _, _, _, _, _, _, _, _, _, _, _, rfl⟩
  refine ⟨tidy 0 (.bl true) S', ?_⟩
  have hbody : f_law.body = .cons (nth f_law.body 0) (.cons (.ret (.k (.bl true))) .nil) := rfl
  have hN : f_law.N.length = 16 := rfl
  rw [hbody, hN, step_nx (e0.trans e1)]
  simp
end K08

namespace Hd
open PySem PySem.Spec PyProof.Rows L2
def top (i : Nat) : Stmt := PySem.Challenge.pw_haltwords_k08_whole_longest_ends.main.body.getD i (.Pass ⟨0, 0, 0, 0⟩)
def d_joined : He.DefD := ⟨("joined", none), "joined", "joined", defArgs (top 1), defBody (top 1), defScope (top 1), [], []⟩
def d_moved : He.DefD := ⟨("moved", none), "moved", "moved", defArgs (top 3), defBody (top 3), defScope (top 3), [], []⟩
def d_base_times : He.DefD := ⟨("base_times", none), "base_times", "base_times", defArgs (top 4), defBody (top 4), defScope (top 4), [], []⟩
def d_place_within : He.DefD := ⟨("place_within", none), "place_within", "place_within", defArgs (top 6), defBody (top 6), defScope (top 6), [], []⟩
def d_longest_suffix : He.DefD := ⟨("longest_suffix", none), "longest_suffix", "longest_suffix", defArgs (top 7), defBody (top 7), defScope (top 7), [], []⟩
def d__law_begun : He.DefD := ⟨("_law_begun", none), "_law_begun", "_law_begun", defArgs (top 9), defBody (top 9), defScope (top 9), [], []⟩
def d__law_draw : He.DefD := ⟨("_law_draw", none), "_law_draw", "_law_draw", defArgs (top 10), defBody (top 10), defScope (top 10), [], []⟩
def d__law_of : He.DefD := ⟨("_law_of", none), "_law_of", "_law_of", defArgs (top 11), defBody (top 11), defScope (top 11), [], []⟩
def d__law_like : He.DefD := ⟨("_law_like", none), "_law_like", "_law_like", defArgs (top 12), defBody (top 12), defScope (top 12), [], []⟩
def d__law_side : He.DefD := ⟨("_law_side", none), "_law_side", "_law_side", defArgs (top 13), defBody (top 13), defScope (top 13), [], []⟩
def d__law_number : He.DefD := ⟨("_law_number", none), "_law_number", "_law_number", defArgs (top 14), defBody (top 14), defScope (top 14), [], []⟩
def d__law_exponent : He.DefD := ⟨("_law_exponent", none), "_law_exponent", "_law_exponent", defArgs (top 15), defBody (top 15), defScope (top 15), [], []⟩
def d__law_place_of : He.DefD := ⟨("_law_place_of", none), "_law_place_of", "_law_place_of", defArgs (top 16), defBody (top 16), defScope (top 16), [], []⟩
def d__law_near : He.DefD := ⟨("_law_near", none), "_law_near", "_law_near", defArgs (top 17), defBody (top 17), defScope (top 17), [], []⟩
def d__law_row : He.DefD := ⟨("_law_row", none), "_law_row", "_law_row", defArgs (top 18), defBody (top 18), defScope (top 18), [], []⟩
def d__law_is_of : He.DefD := ⟨("_law_is_of", none), "_law_is_of", "_law_is_of", defArgs (top 19), defBody (top 19), defScope (top 19), [], []⟩
def d__law_times : He.DefD := ⟨("_law_times", none), "_law_times", "_law_times", defArgs (top 20), defBody (top 20), defScope (top 20), [], []⟩
def d__law_inside : He.DefD := ⟨("_law_inside", none), "_law_inside", "_law_inside", defArgs (top 21), defBody (top 21), defScope (top 21), [], []⟩
def d__law_cut : He.DefD := ⟨("_law_cut", none), "_law_cut", "_law_cut", defArgs (top 22), defBody (top 22), defScope (top 22), [], []⟩
def d__law_mixed : He.DefD := ⟨("_law_mixed", none), "_law_mixed", "_law_mixed", defArgs (top 23), defBody (top 23), defScope (top 23), [], []⟩
def d__law_is_odd : He.DefD := ⟨("_law_is_odd", none), "_law_is_odd", "_law_is_odd", defArgs (top 24), defBody (top 24), defScope (top 24), [], []⟩
def d__law_cut_right : He.DefD := ⟨("_law_cut_right", none), "_law_cut_right", "_law_cut_right", defArgs (top 25), defBody (top 25), defScope (top 25), [], []⟩
def d_law : He.DefD := ⟨("law", none), "law", "law", defArgs (top 26), defBody (top 26), defScope (top 26), [], []⟩
def fn : List He.DefD := [d_joined, d_moved, d_base_times, d_place_within, d_longest_suffix, d__law_begun, d__law_draw, d__law_of, d__law_like, d__law_side, d__law_number, d__law_exponent, d__law_place_of, d__law_near, d__law_row, d__law_is_of, d__law_times, d__law_inside, d__law_cut, d__law_mixed, d__law_is_odd, d__law_cut_right, d_law]
def fa : List He.Fa := [.glo "joined", .glo "moved", .glo "base_times", .glo "place_within", .glo "longest_suffix", .glo "_law_begun", .glo "_law_draw", .glo "_law_of", .glo "_law_like", .glo "_law_side", .glo "_law_number", .glo "_law_exponent", .glo "_law_place_of", .glo "_law_near", .glo "_law_row", .glo "_law_is_of", .glo "_law_times", .glo "_law_inside", .glo "_law_cut", .glo "_law_mixed", .glo "_law_is_odd", .glo "_law_cut_right", .glo "law", .free "len", .free "int", .free "tuple", .free "list", .free "range", .free "repr", .free "max", .free "min", .free "sum", .free "reversed", .free "isinstance"]
abbrev R : PySem.W.OpenRow := PySem.W.OpenLaw.row PySem.Challenge.rw_haltwords_k08_whole_longest_ends
abbrev hk : PySem.W.Hook := He.hookD 4 fa fn
def ob (s : PySem.W.SharedT) : He.AlD := He.obsDG 4 fa fn (HandSHeadRun.getT s)
theorem ob_eq (s : PySem.W.SharedT) : ob s = hk.obs s.abs := He.obsDG_eq (HandSHeadRun.getT_eq s)
def loose : List PySem.Str := ["joined", "moved", "base_times", "place_within", "longest_suffix", "_law_begun", "_law_draw", "_law_of", "_law_like", "_law_side", "_law_number", "_law_exponent", "_law_place_of", "_law_near", "_law_row", "_law_is_of", "_law_times", "_law_inside", "_law_cut", "_law_mixed", "_law_is_odd", "_law_cut_right"]
theorem run (w : World) : HandSHeadRun.RunEq R (PySem.W.view R.prog [26]) hk ob 2000 loose w := by
  intro os
  kernel_rfl
end Hd
open PySem PySem.W PySem.Calls PyProof.Rows
theorem headT (hc : PySem.W.WalkO (view (OpenLaw.row PySem.Challenge.rw_haltwords_k08_whole_longest_ends).prog [26]) Hd.loose (XL (view (OpenLaw.row PySem.Challenge.rw_haltwords_k08_whole_longest_ends).prog [26]) []) Hd.hk.says (OpenLaw.row PySem.Challenge.rw_haltwords_k08_whole_longest_ends).toRowW (HandSHeadRun.topDef (OpenLaw.row PySem.Challenge.rw_haltwords_k08_whole_longest_ends).prog 26) [] fun f vs => PySem.call f vs) : PySem.Challenge.rw_haltwords_k08_whole_longest_ends.Holds := by
  w_on; o_law
  refine HandSHeadRun.head_any (r := OpenLaw.row PySem.Challenge.rw_haltwords_k08_whole_longest_ends) (q := view (OpenLaw.row PySem.Challenge.rw_haltwords_k08_whole_longest_ends).prog [26]) (H := Hd.hk) (ob := Hd.ob) (M := 2000) (loose := Hd.loose) (d := HandSHeadRun.topDef (OpenLaw.row PySem.Challenge.rw_haltwords_k08_whole_longest_ends).prog 26) (kwd := []) Hd.ob_eq
    (by kernel_rfl) (fun s => by kernel_rfl) Hd.run (by kernel_rfl) (by kernel_rfl) (by kernel_rfl) (by rfl) (by first | assumption | decide +kernel) (by decide +kernel) ⟨rfl, rfl, rfl, rfl, rfl, by decide +kernel⟩ ?hw hc
  case hw => w_witness2

section
open PySem G
def K08.T : Tab := ⟨K08.Fs, [], ["int", "len", "list", "max", "min", "range", "repr", "tuple"]⟩
theorem K08.tab : chkTab K08.T Hd.fn Hd.fa = true := by decide +kernel
theorem PySem.Challenge.cw_haltwords_k08_whole_longest_ends_holds : PySem.Challenge.rw_haltwords_k08_whole_longest_ends.Holds :=
  headT (law_end K08.T 1000000 8 22 (n := 63) rfl (by decide) rfl ⟨rfl, by decide, by decide⟩ K08.tab rfl rfl rfl fun _ hn hb => K08.law_ok hn hb)
end
