import PyProof.Rows.All
import Wide.All
import OpenK.AllK
import Wide.FinOn
import HandS.ForMost
import HandS.Wide
import HandS.TupAny
import HandS.Style
import HandS.Zip
import HandS.Conv
import HandS.Small
import HandS.Ends
import PySem.Challenge.RW_runcounts_k31_calm_polynomials
set_option Elab.async false
set_option linter.all false
set_option maxRecDepth 100000
/-! MiCore: data by value, the small core language, its evaluator. -/
namespace Mi
open PySem L2

/-- data by value; c of an instance: the place of its class in the table -/
inductive D where
  | non | bl (b : Bool) | int (i : Int) | str (s : Str)
  | tup (xs : List D) | lst (xs : List D)
  | dct (ks : List Key) (ds : List D)
  | ins (c : Nat) (ns : List Str) (ds : List D)
  | scr (ns : List Int)

/-- what a frame owns alone: a tree of things that may change, its leaves data -/
inductive T where
  | cl (d : D) | ls (ts : List T) | dc (ks : List Key) (ts : List T) | ob (c : Nat) (ns : List Str) (ts : List T)

mutual
def T.d : T → D
  | .cl d => d
  | .ls ts => .lst (T.ds ts)
  | .dc ks ts => .dct ks (T.ds ts)
  | .ob c ns ts => .ins c ns (T.ds ts)
def T.ds : List T → List D
  | [] => []
  | t :: r => T.d t :: T.ds r
end

/-- a slot: a value, or a root -/
inductive S where
  | v (d : D) | r (k : Nat)
abbrev Sl := List (Option S)
abbrev Rt := List (Option T)

inductive BOp where | add | sub | mul | fdiv | mod | pow
inductive COp where | eq | ne | lt | le | gt | ge | isn | notn | ist | notist | mem | nmem
inductive F1 where | len | int | str | repr | tuple | list | sum | max | min | abs | all | any
inductive F2 where | max | min

/-! simple expressions and paths: nothing is changed by them -/
mutual
inductive X0 where
  | int (i : Int) | str (s : Str) | rd (p : P)
  | add (a b : X0) | sub (a b : X0) | neg (a : X0) | len (p : P)
inductive P where
  | var (i : Nat) | ix (p : P) (e : X0) | at (p : P) (f : Str)
end

inductive Tg where
  | var (i : Nat) | tup (ts : List Tg)

mutual
inductive E where
  | int (i : Int) | bl (b : Bool) | non | str (s : Str)
  | glb (x : Str)
  | x (e : X0)
  | get (p : P)
  | bin (op : BOp) (a b : E)
  | neg (a : E)
  | cmp (op : COp) (a b : E)
  | emp (neg : Bool) (p : P)
  | and (a b : E) | or (a b : E) | not (a : E)
  | ife (t a b : E)
  | tup (es : Es) | lst (es : Es)
  | ix (a i : E)
  | sl (a : E) (lo hi : Option X0)
  | rev (a : E)
  | at (a : E) (f : Str)
  | call (f : Nat) (es : Es) (kw : Es) (pm : List Nat)
  | f1 (f : F1) (a : E) | f1p (f : F1) (p : P)
  | f2 (f : F2) (a b : E)
  | lrg1 (tu : Bool) (b : E) | lrg2 (tu : Bool) (a b : E)
  | pop (p : P)
  | lc (own : List Nat) (tg : Tg) (it : It) (cond : E) (elt : E)
inductive Es where
  | nil | cons (e : E) (r : Es) | mut (i : Nat) (r : Es)
inductive It where
  | rng1 (a : E) | rng2 (a b : E)
  | seq (a : E) | pth (p : P)
  | enum (a : E) | enumP (p : P)
  | zip (a b : E)
end

mutual
inductive St where
  | asg (i : Nat) (e : E)
  | al (i j : Nat)
  | par (i j : Nat) (a b : E)
  | parN (i j : Nat) (a b : E)
  | asgT (tg : Tg) (e : E)
  | setx (p : P) (x : X0) (e : E)
  | app (p : P) (e : E)
  | aug (i : Nat) (op : BOp) (e : E)
  | ex (e : E)
  | ite (c : E) (a b : Ss)
  | fr (tg : Tg) (it : It) (b : Ss)
  | frV (tg : Tg) (i : Nat) (b : Ss)
  | wh (c : E) (b : Ss)
  | ret (e : E) | retN | brk | ct | nop | never
inductive Ss where
  | nil | cons (s : St) (r : Ss)
end

/-! ### operations by values -/
def lookK (ks : List Key) (ds : List α) (k : Key) : Option α := match ks, ds with
  | k' :: ks, d :: ds => if k' = k then some d else lookK ks ds k
  | _, _ => none
def lookN (ns : List Str) (ds : List α) (f : Str) : Option α := match ns, ds with
  | n :: ns, d :: ds => if n = f then some d else lookN ns ds f
  | _, _ => none
def putKs (k : Key) (x : α) : List Key → List α → List Key × List α
  | k' :: ks, d :: ds => if k' = k then (k' :: ks, x :: ds) else let r := putKs k x ks ds; (k' :: r.1, d :: r.2)
  | _, _ => ([k], [x])
def D.key : D → Option Key
  | .int i => some (.inl i)
  | .str s => some (.inr s)
  | _ => none
def ixD : D → D → Option D
  | .lst xs, .int i => atI xs i
  | .tup xs, .int i => atI xs i
  | .scr ns, .int i => (atI ns i).map D.int
  | .dct ks ds, k => k.key.bind (lookK ks ds)
  | .str s, .int i => if s.length ≤ sizeLine then (atI s.cps.toList i).map fun c => .str ⟨#[c]⟩ else none
  | _, _ => none
def atD : D → Str → Option D
  | .ins _ ns ds, f => lookN ns ds f
  | _, _ => none
def ixT : T → D → Option T
  | .cl d, i => (ixD d i).map T.cl
  | .ls ts, .int i => atI ts i
  | .dc ks ts, k => k.key.bind (lookK ks ts)
  | _, _ => none
def atT : T → Str → Option T
  | .cl d, f => (atD d f).map T.cl
  | .ob _ ns ts, f => lookN ns ts f
  | _, _ => none
def setIxT : T → D → T → Option T
  | .ls ts, .int i, t => (ixN ts.length i).map fun j => .ls (ts.set j t)
  | .dc ks ts, k, t => k.key.bind fun k => if (lookK ks ts k).isSome then some (let r := putKs k t ks ts; .dc r.1 r.2) else none
  | _, _, _ => none
/-- a key that stands once at most put -/
def putOne (k : Key) (x : α) : List Key → List α → Option (List Key × List α)
  | k' :: ks, d :: ds => if k' = k then (if (ks.any fun k' => decide (k' = k)) = true then none else some (k' :: ks, x :: ds)) else (putOne k x ks ds).map fun r => (k' :: r.1, d :: r.2)
  | [], [] => some ([k], [x])
  | _, _ => none
def putIxT : T → D → T → Option T
  | .ls ts, .int i, t => (ixN ts.length i).map fun j => .ls (ts.set j t)
  | .dc ks ts, k, t => k.key.bind fun k => if ks.length < sizeLine then (putOne k t ks ts).map fun r => .dc r.1 r.2 else none
  | _, _, _ => none
def D.scal : D → Bool
  | .non => true | .bl _ => true | .int _ => true | .str _ => true | _ => false
def lenD : D → Option Int
  | .lst xs => some xs.length
  | .tup xs => some xs.length
  | .scr ns => some ns.length
  | .dct ks _ => some ks.length
  | .str s => if s.length ≤ sizeLine then some s.length else none
  | _ => none
mutual
def x0 (sl : Sl) (rt : Rt) : X0 → Option D
  | .int i => some (.int i)
  | .str s => some (.str s)
  | .rd p => match pt sl rt p with | some (.cl d) => if d.scal then some d else none | _ => none
  | .add a b => match x0 sl rt a, x0 sl rt b with | some (.int i), some (.int j) => some (.int (i + j)) | _, _ => none
  | .sub a b => match x0 sl rt a, x0 sl rt b with | some (.int i), some (.int j) => some (.int (i - j)) | _, _ => none
  | .neg a => match x0 sl rt a with | some (.int i) => some (.int (-i)) | _ => none
  | .len p => match pt sl rt p with | some t => (lenD t.d).map D.int | _ => none
def pt (sl : Sl) (rt : Rt) : P → Option T
  | .var i => match sl[i]? with
    | some (some (.v d)) => some (.cl d)
    | some (some (.r k)) => match rt[k]? with | some (some t) => some t | _ => none
    | _ => none
  | .ix p e => match pt sl rt p, x0 sl rt e with | some t, some i => ixT t i | _, _ => none
  | .at p f => match pt sl rt p with | some t => atT t f | _ => none
end
/-- the tree at a path changed -/
def upP (sl : Sl) (rt : Rt) : P → T → Option Rt
  | .var i, t => match sl[i]? with
    | some (some (.r k)) => if k < rt.length then some (rt.set k (some t)) else none
    | _ => none
  | .ix p e, t => match pt sl rt p, x0 sl rt e with
    | some u, some i => (setIxT u i t).bind (upP sl rt p)
    | _, _ => none
  | .at p f, t => match pt sl rt p with
    | some (.ob c ns ts) => if (lookN ns ts f).isSome then upP sl rt p (.ob c ns (setN f t ns ts)) else none
    | _ => none
where setN (f : Str) (t : T) : List Str → List T → List T
  | n :: ns, u :: ts => if n = f then t :: ts else u :: setN f t ns ts
  | _, ts => ts
def P.root : P → Nat
  | .var i => i
  | .ix p _ => p.root
  | .at p _ => p.root
def P.isVar : P → Bool
  | .var _ => true
  | _ => false

mutual
def D.py : D → Option PyData
  | .non => some .none
  | .bl b => some (.bool b)
  | .int i => some (.int i)
  | .str s => some (.str s)
  | .tup xs => (D.pys xs).map .tuple
  | .lst xs => (D.pys xs).map .list
  | .dct _ _ => none
  | .ins _ _ _ => none
  | .scr _ => none
def D.pys : List D → Option (List PyData)
  | [] => some []
  | x :: r => match D.py x, D.pys r with | some a, some b => some (a :: b) | _, _ => none
end
def eqD (a b : D) : Option Bool := match a.py, b.py with
  | some x, some y => if SeqAt.shaped x && SeqAt.shaped y then some (PyData.eqv x y) else none
  | _, _ => none
def mulOk (i j : Int) : Bool := decide (i.natAbs.log2 + j.natAbs.log2 < 1000000)
def cls (xs : List D) : List T := xs.map T.cl
def opB : BOp → D → D → Option T
  | .add, .int i, .int j => some (.cl (.int (i + j)))
  | .add, .str a, .str b => if a.length + b.length ≤ sizeLine then some (.cl (.str (a ++ b))) else none
  | .add, .lst xs, .lst ys => if xs.length + ys.length ≤ sizeLine then some (.ls (cls (xs ++ ys))) else none
  | .add, .tup xs, .tup ys => if xs.length + ys.length ≤ sizeLine then some (.cl (.tup (xs ++ ys))) else none
  | .sub, .int i, .int j => some (.cl (.int (i - j)))
  | .mul, .int i, .int j => if mulOk i j then some (.cl (.int (i * j))) else none
  | .mul, .lst xs, .int k => if xs.length * k.toNat ≤ sizeLine && decide (-(2 ^ 63) ≤ k) && decide (k < 2 ^ 63) then some (.ls (cls (List.replicate k.toNat xs).flatten)) else none
  | .fdiv, .int i, .int j => if j = 0 ∨ 9000 ≤ j.natAbs.log2 then none else some (.cl (.int (i.fdiv j)))
  | .mod, .int i, .int j => if j = 0 then none else some (.cl (.int (i.fmod j)))
  | .pow, .int i, .int j => if 0 ≤ j ∧ j ≤ 1000000 ∧ i.natAbs < 2 ^ 64 then some (.cl (.int (i ^ j.toNat))) else none
  | _, _, _ => none
def opC : COp → D → D → Option Bool
  | .eq, a, b => eqD a b
  | .ne, a, b => (eqD a b).map (!·)
  | .lt, .int i, .int j => some (decide (i < j))
  | .le, .int i, .int j => some (decide (i ≤ j))
  | .gt, .int i, .int j => some (decide (j < i))
  | .ge, .int i, .int j => some (decide (j ≤ i))
  | .isn, a, .non => some (match a with | .non => true | _ => false)
  | .notn, a, .non => some (match a with | .non => false | _ => true)
  | .ist, .bl a, .bl true => some a
  | .notist, .bl a, .bl true => some (!a)
  | _, _, _ => none
def intsOf : List D → Option (List Int)
  | [] => some []
  | .int i :: r => (intsOf r).map (i :: ·)
  | _ => none
def blsOf : List D → Option (List Bool)
  | [] => some []
  | .bl i :: r => (blsOf r).map (i :: ·)
  | _ => none
def D.items : D → Option (List D)
  | .lst xs => some xs
  | .tup xs => some xs
  | .scr ns => some (ns.map D.int)
  | _ => none
def maxI : Int → List Int → Int
  | m, [] => m
  | m, x :: r => maxI (if x > m then x else m) r
def minI : Int → List Int → Int
  | m, [] => m
  | m, x :: r => minI (if x < m then x else m) r
def f1D : F1 → D → Option T
  | .len, a => (lenD a).map fun n => .cl (.int n)
  | .int, .int i => some (.cl (.int i))
  | .int, .bl b => some (.cl (.int (if b then 1 else 0)))
  | .str, .int i => if i.natAbs.log2 < 1920 then some (.cl (.str (toString i))) else none
  | .repr, a => match a.py with
    | some x => if x.showable && !x.hasDict && decide (x.shown.length ≤ sizeLine) && decide (x.depth ≤ 40) then some (.cl (.str x.shown)) else none
    | none => none
  | .tuple, .lst xs => some (.cl (.tup xs))
  | .tuple, .tup xs => some (.cl (.tup xs))
  | .list, .lst xs => some (.ls (cls xs))
  | .list, .tup xs => some (.ls (cls xs))
  | .list, .scr ns => some (.ls (cls (ns.map D.int)))
  | .sum, .lst xs => (intsOf xs).map fun ns => .cl (.int ns.sum)
  | .max, .lst xs => (intsOf xs).bind fun | [] => none | m :: r => some (.cl (.int (maxI m r)))
  | .min, .lst xs => (intsOf xs).bind fun | [] => none | m :: r => some (.cl (.int (minI m r)))
  | .abs, .int i => some (.cl (.int (if i < 0 then -i else i)))
  | .all, .lst xs => (blsOf xs).map fun bs => .cl (.bl (bs.all id))
  | .any, .lst xs => (blsOf xs).map fun bs => .cl (.bl (bs.any id))
  | _, _ => none
def f2D : F2 → D → D → Option D
  | .max, .int i, .int j => some (.int (if j > i then j else i))
  | .min, .int i, .int j => some (.int (if j < i then j else i))
  | _, _, _ => none
def optI : Option D → Option (Option Int)
  | none => some none
  | some (.int i) => some (some i)
  | _ => none
def cut {α : Type} (xs : List α) (lo hi : Option Int) : List α := (xs.drop (HT.sIx xs.length 0 lo)).take (HT.sIx xs.length xs.length hi - HT.sIx xs.length 0 lo)
def slD : D → Option Int → Option Int → Option T
  | .lst xs, lo, hi => some (.ls (cls (cut xs lo hi)))
  | .scr ns, lo, hi => some (.ls (cls ((cut ns lo hi).map D.int)))
  | .tup xs, lo, hi => some (.cl (.tup (cut xs lo hi)))
  | .str s, lo, hi => if s.length ≤ sizeLine then some (.cl (.str (cutS s lo hi))) else none
  | _, _, _ => none
def revD : D → Option T
  | .lst xs => some (.ls (cls xs.reverse))
  | _ => none
/-- items of a tree that is walked, all data -/
def T.leaves : List T → Option (List D)
  | [] => some []
  | .cl d :: r => (T.leaves r).map (d :: ·)
  | _ => none
def T.items : T → Option (List D)
  | .cl d => d.items
  | .ls ts => T.leaves ts
  | _ => none
def T.lst : T → Option (List D)
  | .cl (.lst xs) => some xs
  | .ls ts => T.leaves ts
  | _ => none
def enumD : Nat → List D → List D
  | _, [] => []
  | i, d :: r => .tup [.int i, d] :: enumD (i + 1) r
def zipD : List D → List D → List D
  | a :: as, b :: bs => .tup [a, b] :: zipD as bs
  | _, _ => []
def rngD (lo : Int) (n : Nat) : List D := (List.range n).map fun (i : Nat) => .int (lo + (i : Int))
def rgOk (a b : Int) : Bool := decide (-(2 ^ 62) ≤ a) && decide (a < 2 ^ 62) && decide (-(2 ^ 62) ≤ b) && decide (b < 2 ^ 62) && decide ((b - a).toNat ≤ 2 ^ 24)
def inRng (i : Int) : Bool := decide (-(2 ^ 62) ≤ i) && decide (i < 2 ^ 62)

mutual
def bind (sl : Sl) : Tg → D → Option Sl
  | .var i, d => if i < sl.length then some (sl.set i (some (.v d))) else none
  | .tup ts, d => match d with
    | .tup xs => binds sl ts xs
    | _ => none
def binds (sl : Sl) : List Tg → List D → Option Sl
  | [], [] => some sl
  | t :: ts, x :: xs => match bind sl t x with
    | some sl' => binds sl' ts xs
    | none => none
  | _, _ => none
end
def wip (sl : Sl) : List Nat → Sl
  | [] => sl
  | v :: vs => (wip sl vs).set v none
def close (rt : Rt) (k : Nat) : Rt := rt.modify k fun o => o.map fun t => .cl t.d

/-- a comprehension's turns -/
def lcGo (g : D → Option Sl) (c : Sl → Rt → Option (Bool × Rt)) (e : Sl → Rt → Option (T × Rt)) : List D → List T → Rt → Option (List T × Rt)
  | [], acc, rt => some (acc, rt)
  | x :: xs, acc, rt => match g x with
    | none => none
    | some sl => match c sl rt with
      | none => none
      | some (false, rt) => lcGo g c e xs acc rt
      | some (true, rt) => match e sl rt with
        | none => none
        | some (t, rt) => if acc.length < sizeLine then lcGo g c e xs (acc ++ [t]) rt else none

/-- the defs, by number: their parameters' trees in, the result and these trees out -/
abbrev Fs := Nat → List T → Option (T × List T)
def argsOf (rt : Rt) : List (D ⊕ Nat) → Option (List T)
  | [] => some []
  | .inl d :: r => (argsOf rt r).map (.cl d :: ·)
  | .inr k :: r => match rt[k]? with
    | some (some t) => (argsOf rt r).map (t :: ·)
    | _ => none
def backOf (rt : Rt) : List (D ⊕ Nat) → List T → Rt
  | .inr k :: r, t :: ts => backOf (rt.set k (some t)) r ts
  | .inl _ :: r, _ :: ts => backOf rt r ts
  | _, _ => rt
def clr (rt : Rt) : List (D ⊕ Nat) → Rt
  | [] => rt
  | .inl _ :: r => clr rt r
  | .inr k :: r => clr (rt.set k none) r
def mutsOf : List (D ⊕ Nat) → List Nat
  | [] => []
  | .inl _ :: r => mutsOf r
  | .inr k :: r => k :: mutsOf r
def perm (xs : List α) : List Nat → Option (List α)
  | [] => some []
  | i :: r => match xs[i]?, perm xs r with | some x, some ys => some (x :: ys) | _, _ => none

/-- a test's answer -/
def tstOf : Option (T × Rt) → Option (Bool × Rt)
  | some (.cl (.bl b), rt) => some (b, rt)
  | _ => none

structure Cfg where
  F : Fs
  np : Nat
  g : List (Str × D)

mutual
def ev (c : Cfg) (mv : Bool) (sl : Sl) : E → Rt → Option (T × Rt)
  | .int i, rt => some (.cl (.int i), rt)
  | .bl b, rt => some (.cl (.bl b), rt)
  | .non, rt => some (.cl .non, rt)
  | .str s, rt => some (.cl (.str s), rt)
  | .glb x, rt => match c.g.lookup x with
    | some d => some (.cl d, rt)
    | none => none
  | .x e, rt => match x0 sl rt e with
    | some d => some (.cl d, rt)
    | none => none
  | .get p, rt => match pt sl rt p with
    | some (.cl d) => some (.cl d, rt)
    | some t => match sl[p.root]? with
      | some (some (.r k)) => if mv && p.isVar && decide (c.np ≤ k) then some (t, rt.set k none) else some (.cl t.d, close rt k)
      | _ => none
    | none => none
  | .bin op a b, rt => match ev c false sl a rt with
    | none => none
    | some (x, rt) => match ev c false sl b rt with
      | none => none
      | some (y, rt) => (opB op x.d y.d).map fun t => (t, rt)
  | .neg a, rt => match ev c false sl a rt with
    | some (.cl (.int i), rt) => some (.cl (.int (-i)), rt)
    | _ => none
  | .cmp op a b, rt => match ev c false sl a rt with
    | none => none
    | some (x, rt) => match ev c false sl b rt with
      | none => none
      | some (y, rt) => (opC op x.d y.d).map fun t => (.cl (.bl t), rt)
  | .emp n p, rt => match pt sl rt p with
    | some t => (eqD t.d (.lst [])).map fun b => (.cl (.bl (if n then !b else b)), rt)
    | none => none
  | .and a b, rt => match ev c false sl a rt with
    | some (.cl (.bl true), rt) => ev c false sl b rt
    | some (.cl (.bl false), rt) => some (.cl (.bl false), rt)
    | _ => none
  | .or a b, rt => match ev c false sl a rt with
    | some (.cl (.bl true), rt) => some (.cl (.bl true), rt)
    | some (.cl (.bl false), rt) => ev c false sl b rt
    | _ => none
  | .not a, rt => match ev c false sl a rt with
    | some (.cl (.bl b), rt) => some (.cl (.bl (!b)), rt)
    | _ => none
  | .ife t a b, rt => match ev c false sl t rt with
    | some (.cl (.bl true), rt) => ev c mv sl a rt
    | some (.cl (.bl false), rt) => ev c mv sl b rt
    | _ => none
  | .tup es, rt => match evs c false sl es rt with
    | some (ts, rt) => if ts.length ≤ sizeLine then some (.cl (.tup (T.ds ts)), rt) else none
    | none => none
  | .lst es, rt => match evs c mv sl es rt with
    | some (ts, rt) => if ts.length ≤ sizeLine then some (.ls ts, rt) else none
    | none => none
  | .ix a i, rt => match ev c false sl a rt with
    | none => none
    | some (x, rt) => match ev c false sl i rt with
      | none => none
      | some (y, rt) => (ixD x.d y.d).map fun d => (.cl d, rt)
  | .sl a lo hi, rt => match ev c false sl a rt with
    | none => none
    | some (x, rt) => match (match lo with | none => some none | some e => (x0 sl rt e).bind fun d => optI (some d)), (match hi with | none => some none | some e => (x0 sl rt e).bind fun d => optI (some d)) with
      | some l, some h => (slD x.d l h).map fun t => (t, rt)
      | _, _ => none
  | .rev a, rt => match ev c false sl a rt with
    | none => none
    | some (x, rt) => (revD x.d).map fun t => (t, rt)
  | .at a f, rt => match ev c false sl a rt with
    | none => none
    | some (x, rt) => (atD x.d f).map fun d => (.cl d, rt)
  | .call f es kw pm, rt => match evA c sl es rt with
    | none => none
    | some (as, rt) => match evA c sl kw rt with
      | none => none
      | some (bs, rt) => match perm (as ++ bs) pm with
        | none => none
        | some xs => if (mutsOf xs).Nodup then match argsOf rt xs with
            | none => none
            | some ts => match c.F f ts with
              | none => none
              | some (r, ts') => if ts'.length = ts.length then some (r, backOf (clr rt xs) xs ts') else none
          else none
  | .f1 f a, rt => match ev c false sl a rt with
    | none => none
    | some (x, rt) => (f1D f x.d).map fun t => (t, rt)
  | .f1p f p, rt => match pt sl rt p with
    | none => none
    | some x => match x.items with
      | none => none
      | some _ => (f1D f x.d).map fun t => (t, rt)
  | .f2 f a b, rt => match ev c false sl a rt with
    | none => none
    | some (x, rt) => match ev c false sl b rt with
      | none => none
      | some (y, rt) => (f2D f x.d y.d).map fun d => (.cl d, rt)
  | .lrg1 tu b, rt => match ev c false sl b rt with
    | some (.cl (.int n), rt) => if rgOk 0 n then some (if tu then .cl (.tup (rngD 0 n.toNat)) else .ls (cls (rngD 0 n.toNat)), rt) else none
    | _ => none
  | .lrg2 tu a b, rt => match ev c false sl a rt with
    | some (.cl (.int m), rt) => match ev c false sl b rt with
      | some (.cl (.int n), rt) => if rgOk m n then some (if tu then .cl (.tup (rngD m (n - m).toNat)) else .ls (cls (rngD m (n - m).toNat)), rt) else none
      | _ => none
    | _ => none
  | .pop p, rt => match pt sl rt p with
    | some (.ls ts) => match ts.getLast? with
      | some t => (upP sl rt p (.ls ts.dropLast)).map fun rt => (t, rt)
      | none => none
    | _ => none
  | .lc own tg it cond elt, rt => match evI c sl it rt with
    | none => none
    | some (xs, rt) => match lcGo (fun x => bind (wip sl own) tg x) (fun sl rt => tstOf (ev c false sl cond rt)) (fun sl rt => ev c false sl elt rt) xs [] rt with
      | some (ts, rt) => some (.ls ts, rt)
      | none => none
def evs (c : Cfg) (mv : Bool) (sl : Sl) : Es → Rt → Option (List T × Rt)
  | .nil, rt => some ([], rt)
  | .cons e r, rt => match ev c mv sl e rt with
    | none => none
    | some (t, rt) => match evs c mv sl r rt with
      | none => none
      | some (ts, rt) => some (t :: ts, rt)
  | .mut _ _, _ => none
def evA (c : Cfg) (sl : Sl) : Es → Rt → Option (List (D ⊕ Nat) × Rt)
  | .nil, rt => some ([], rt)
  | .cons e r, rt => match ev c false sl e rt with
    | none => none
    | some (t, rt) => match evA c sl r rt with
      | none => none
      | some (ts, rt) => some (.inl t.d :: ts, rt)
  | .mut i r, rt => match sl[i]? with
    | some (some (.r k)) => match evA c sl r rt with
      | none => none
      | some (ts, rt) => some (.inr k :: ts, rt)
    | some (some (.v d)) => match evA c sl r rt with
      | none => none
      | some (ts, rt) => some (.inl d :: ts, rt)
    | _ => none
def evI (c : Cfg) (sl : Sl) : It → Rt → Option (List D × Rt)
  | .rng1 a, rt => match ev c false sl a rt with
    | some (.cl (.int n), rt) => if inRng n then some (rngD 0 n.toNat, rt) else none
    | _ => none
  | .rng2 a b, rt => match ev c false sl a rt with
    | some (.cl (.int m), rt) => match ev c false sl b rt with
      | some (.cl (.int n), rt) => if inRng m && inRng n then some (rngD m (n - m).toNat, rt) else none
      | _ => none
    | _ => none
  | .seq a, rt => match ev c false sl a rt with
    | none => none
    | some (x, rt) => x.d.items.map fun xs => (xs, rt)
  | .pth p, rt => match pt sl rt p with
    | none => none
    | some t => t.items.map fun xs => (xs, rt)
  | .enum a, rt => match ev c false sl a rt with
    | none => none
    | some (x, rt) => match x.d with
      | .lst xs => some (enumD 0 xs, rt)
      | _ => none
  | .enumP p, rt => match pt sl rt p with
    | none => none
    | some t => match t.lst with
      | some xs => some (enumD 0 xs, rt)
      | none => none
  | .zip a b, rt => match ev c false sl a rt with
    | none => none
    | some (x, rt) => match ev c false sl b rt with
      | none => none
      | some (y, rt) => match x.d, y.d with
        | .lst xs, .lst ys => some (zipD xs ys, rt)
        | .tup xs, .tup ys => some (zipD xs ys, rt)
        | _, _ => none
end

/-! ### statements -/
inductive Fl where
  | nx | rt (t : T) | bk | ct
/-- how many slots but i hold the root k -/
def usedBy (sl : Sl) (i k : Nat) : Nat → Bool
  | 0 => false
  | n + 1 => usedBy sl i k n || (n != i && (match sl[n]? with | some (some (.r k')) => k' == k | _ => false))
def store (c : Cfg) (i : Nat) (t : T) (sl : Sl) (rt : Rt) : Option (Sl × Rt) :=
  if i < sl.length then match t with
    | .cl d => some (sl.set i (some (.v d)), rt)
    | t => if usedBy sl i (c.np + i) sl.length then none
      else if c.np + i < rt.length then some (sl.set i (some (.r (c.np + i))), rt.set (c.np + i) (some t)) else none
  else none
abbrev R3 := Option (Fl × Sl × Rt)
/-- a for's turns -/
def forGo (g : Sl → D → Option Sl) (b : Sl → Rt → R3) : List D → Sl → Rt → R3
  | [], sl, rt => some (.nx, sl, rt)
  | x :: xs, sl, rt => match g sl x with
    | none => none
    | some sl => match b sl rt with
      | some (.nx, sl, rt) => forGo g b xs sl rt
      | some (.ct, sl, rt) => forGo g b xs sl rt
      | some (.bk, sl, rt) => some (.nx, sl, rt)
      | some (.rt t, sl, rt) => some (.rt t, sl, rt)
      | none => none
/-- .. over the list at slot i's root k, which is read again at each turn; n: its length; the turns left, the turn -/
def forGoV (g : Sl → D → Option Sl) (b : Sl → Rt → R3) (i k n : Nat) : Nat → Nat → Sl → Rt → R3
  | 0, _, sl, rt => match rt[k]? with
    | some (some t) => match t.lst with
      | some xs => if xs.length = n then some (.nx, sl, rt) else none
      | none => none
    | _ => none
  | m + 1, j, sl, rt => match rt[k]? with
    | some (some t) => match t.lst with
      | some xs => if xs.length = n then match xs[j]? with
          | none => none
          | some x => match g sl x with
            | none => none
            | some sl => match b sl rt with
              | some (.nx, sl, rt) => forGoV g b i k n m (j + 1) sl rt
              | some (.ct, sl, rt) => forGoV g b i k n m (j + 1) sl rt
              | some (.bk, sl, rt) => some (.nx, sl, rt)
              | some (.rt t, sl, rt) => some (.rt t, sl, rt)
              | none => none
        else none
      | none => none
    | _ => none
def whGo (c : Sl → Rt → Option (Bool × Rt)) (b : Sl → Rt → R3) : Nat → Sl → Rt → R3
  | 0, _, _ => none
  | n + 1, sl, rt => match c sl rt with
    | none => none
    | some (false, rt) => some (.nx, sl, rt)
    | some (true, rt) => match b sl rt with
      | some (.nx, sl, rt) => whGo c b n sl rt
      | some (.ct, sl, rt) => whGo c b n sl rt
      | some (.bk, sl, rt) => some (.nx, sl, rt)
      | some (.rt t, sl, rt) => some (.rt t, sl, rt)
      | none => none
def whMax : Nat := 1000000000

/-- a value by simple means alone, the roots as they are -/
def evq (sl : Sl) (rt : Rt) : E → Option D
  | .int i => some (.int i)
  | .bl b => some (.bl b)
  | .non => some .non
  | .str s => some (.str s)
  | .get p => match pt sl rt p with
    | some (.cl d) => some d
    | _ => none
  | .bin op a b => match evq sl rt a, evq sl rt b with
    | some x, some y => match opB op x y with | some (.cl d) => some d | _ => none
    | _, _ => none
  | .neg a => match evq sl rt a with
    | some (.int i) => some (.int (-i))
    | _ => none
  | .x e => x0 sl rt e
  | .tup (.cons a (.cons b .nil)) => match evq sl rt a, evq sl rt b with
    | some x, some y => some (.tup [x, y])
    | _, _ => none
  | _ => none

def Tg.slots : Tg → List Nat
  | .var i => [i]
  | .tup ts => slotss ts
where slotss : List Tg → List Nat
  | [] => []
  | t :: r => Tg.slots t ++ slotss r
/-! the slots whose home roots a statement may fill -/
mutual
def St.stores : St → List Nat
  | .asg i _ => [i]
  | .par i j _ _ => [j, i]
  | .parN i j _ _ => [i, j]
  | .aug i _ _ => [i]
  | .ite _ a b => a.stores ++ b.stores
  | .fr _ _ b => b.stores
  | .frV _ _ b => b.stores
  | .wh _ b => b.stores
  | _ => []
def Ss.stores : Ss → List Nat
  | .nil => []
  | .cons s r => s.stores ++ r.stores
end
mutual
def ex (c : Cfg) : St → Sl → Rt → R3
  | .asg i e, sl, rt => match ev c false sl e rt with
    | none => none
    | some (t, rt) => (store c i t sl rt).map fun p => (.nx, p)
  | .al i j, sl, rt => match sl[j]? with
    | some (some s) => if i < sl.length then some (.nx, sl.set i (some s), rt) else none
    | _ => none
  | .par i j a b, sl, rt => match ev c false sl a rt with
    | none => none
    | some (x, rt) => match ev c false sl b rt with
      | none => none
      | some (y, rt) => match store c j y sl rt with
        | none => none
        | some (sl, rt) => (store c i x sl rt).map fun p => (.nx, p)
  | .parN i j a b, sl, rt => match ev c false sl a rt with
    | none => none
    | some (x, rt) => match ev c false sl b rt with
      | none => none
      | some (y, rt) => match store c i x sl rt with
        | none => none
        | some (sl, rt) => (store c j y sl rt).map fun p => (.nx, p)
  | .asgT tg e, sl, rt => match ev c false sl e rt with
    | none => none
    | some (t, rt) => (bind sl tg t.d).map fun sl => (.nx, sl, rt)
  | .setx p x e, sl, rt => match ev c false sl e rt with
    | none => none
    | some (t, rt) => match pt sl rt p, x0 sl rt x with
      | some u, some i => match putIxT u i t with
        | none => none
        | some u => (upP sl rt p u).map fun rt => (.nx, sl, rt)
      | _, _ => none
  | .app p e, sl, rt => match pt sl rt p with
    | some (.ls _) => match (if p.isVar then ev c false sl e rt else (evq sl rt e).map fun d => (.cl d, rt)) with
      | none => none
      | some (t, rt) => match pt sl rt p with
        | some (.ls ts) => if ts.length < sizeLine then (upP sl rt p (.ls (ts ++ [t]))).map fun rt => (.nx, sl, rt) else none
        | _ => none
    | _ => none
  | .aug i op e, sl, rt => match sl[i]? with
    | some (some (.v (.int a))) => match ev c false sl e rt with
      | some (.cl (.int b), rt) => match op with
        | .add => (store c i (.cl (.int (a + b))) sl rt).map fun p => (.nx, p)
        | .sub => (store c i (.cl (.int (a - b))) sl rt).map fun p => (.nx, p)
        | _ => none
      | _ => none
    | _ => none
  | .ex e, sl, rt => match ev c false sl e rt with
    | none => none
    | some (_, rt) => some (.nx, sl, rt)
  | .ite e a b, sl, rt => match tstOf (ev c false sl e rt) with
    | none => none
    | some (true, rt) => exs c a sl rt
    | some (false, rt) => exs c b sl rt
  | .fr tg it b, sl, rt => match evI c sl it rt with
    | none => none
    | some (xs, rt) => forGo (fun sl x => bind sl tg x) (fun sl rt => exs c b sl rt) xs sl rt
  | .frV tg i b, sl, rt => match sl[i]? with
    | some (some (.r k)) => if b.stores.all (fun j => k != c.np + j) then match rt[k]? with
      | some (some t) => match t.lst with
        | some xs => forGoV (fun sl x => bind sl tg x) (fun sl rt => exs c b sl rt) i k xs.length xs.length 0 sl rt
        | none => none
      | _ => none
      else none
    | _ => none
  | .wh e b, sl, rt => whGo (fun sl rt => tstOf (ev c false sl e rt)) (fun sl rt => exs c b sl rt) whMax sl rt
  | .ret e, sl, rt => match ev c true sl e rt with
    | none => none
    | some (t, rt) => some (.rt t, sl, rt)
  | .retN, sl, rt => some (.rt (.cl .non), sl, rt)
  | .brk, sl, rt => some (.bk, sl, rt)
  | .ct, sl, rt => some (.ct, sl, rt)
  | .nop, sl, rt => some (.nx, sl, rt)
  | .never, _, _ => none
def exs (c : Cfg) : Ss → Sl → Rt → R3
  | .nil, sl, rt => some (.nx, sl, rt)
  | .cons s r, sl, rt => match ex c s sl rt with
    | some (.nx, sl, rt) => exs c r sl rt
    | o => o
end

/-- a def: how many parameters, how many slots in all, its body -/
structure Fn where
  np : Nat
  ns : Nat
  body : Ss
def startSl (np ns : Nat) : Sl := (List.range np).map (fun k => some (.r k)) ++ List.replicate (ns - np) none
def startRt (ns : Nat) (as : List T) : Rt := as.map some ++ List.replicate ns none
def somes : List (Option T) → Option (List T)
  | [] => some []
  | some t :: r => (somes r).map (t :: ·)
  | none :: _ => none
def runFn (g : List (Str × D)) (F : Fs) (f : Fn) (as : List T) : Option (T × List T) :=
  if as.length = f.np then match exs ⟨F, f.np, g⟩ f.body (startSl f.np f.ns) (startRt f.ns as) with
    | some (.rt t, _, rt) => (somes (rt.take f.np)).map fun as => (t, as)
    | some (.nx, _, rt) => (somes (rt.take f.np)).map fun as => (.cl .non, as)
    | _ => none
  else none
/-- all defs, calls nested at most k deep -/
def sem (g : List (Str × D)) (G : List Fn) : Nat → Fs
  | 0 => fun _ _ => none
  | k + 1 => fun f as => match G[f]? with
    | none => none
    | some fn => runFn g (sem g G k) fn as
end Mi
/-! MiRep: how data and owned trees lie in the abstract heap; frames. -/
namespace Mi
open PySem PySem.Spec PyProof.Rows L2

section
variable (K : PySem.W.Frag) (C : Nat → Addr)
mutual
/-- v stands for the data d, all of it in h -/
inductive Rep (h : Hp) : V → D → Prop
  | non : Rep h .non .non
  | bl (b : Bool) : Rep h (.bl b) (.bl b)
  | int (i : Int) : Rep h (.int i) (.int i)
  | str (x : Str) : Rep h (.str x) (.str x)
  | tup {a : Addr} {xs : List V} {ds : List D} : SqT K h a xs → Reps h xs ds → Rep h (.ref a) (.tup ds)
  | lst {a : Addr} {xs : List V} {ds : List D} : h a = some (.lst xs) → Reps h xs ds → Rep h (.ref a) (.lst ds)
  | scr {a : Addr} {ns : List Int} : SqL K h a (ns.map V.int) → Rep h (.ref a) (.scr ns)
  | dct {a : Addr} {kvs : List (Key × V)} {ks : List Key} {ds : List D} : Rd h a (.dK kvs) → kvs.map (·.1) = ks → Reps h (kvs.map (·.2)) ds → Rep h (.ref a) (.dct ks ds)
  | ins {a dx : Addr} {c : Nat} {fs : List (Str × V)} {ns : List Str} {ds : List D} : h a = some (.ins (C c) dx fs) → fs.map (·.1) = ns → Reps h (fs.map (·.2)) ds → Rep h (.ref a) (.ins c ns ds)
inductive Reps (h : Hp) : List V → List D → Prop
  | nil : Reps h [] []
  | cons {v : V} {vs : List V} {d : D} {ds : List D} : Rep h v d → Reps h vs ds → Reps h (v :: vs) (d :: ds)
end
mutual
/-- v stands for the tree t; what may change of it stands at F, in H alone; its leaves in h -/
inductive Own (h H : Hp) : V → T → List Addr → Prop
  | cl {v : V} {d : D} : Rep K C h v d → Own h H v (.cl d) []
  | ls {a : Addr} {xs : List V} {ts : List T} {F : List Addr} : H a = some (.lst xs) → h a = none → Owns h H xs ts F → a ∉ F → Own h H (.ref a) (.ls ts) (a :: F)
  | dc {a : Addr} {kvs : List (Key × V)} {ks : List Key} {ts : List T} {F : List Addr} : H a = some (.dK kvs) → h a = none → kvs.map (·.1) = ks → Owns h H (kvs.map (·.2)) ts F → a ∉ F → Own h H (.ref a) (.dc ks ts) (a :: F)
  | ob {a dx : Addr} {c : Nat} {fs : List (Str × V)} {ns : List Str} {ts : List T} {F : List Addr} : H a = some (.ins (C c) dx fs) → h a = none → fs.map (·.1) = ns → Owns h H (fs.map (·.2)) ts F → a ∉ F →
      Own h H (.ref a) (.ob c ns ts) (a :: F)
inductive Owns (h H : Hp) : List V → List T → List Addr → Prop
  | nil : Owns h H [] [] []
  | cons {v : V} {vs : List V} {t : T} {ts : List T} {F G : List Addr} : Own h H v t F → Owns h H vs ts G → (∀ a, a ∈ F → a ∉ G) → Owns h H (v :: vs) (t :: ts) (F ++ G)
end
/-- the roots of a frame -/
inductive OwnR (h H : Hp) : List V → Rt → List Addr → Prop
  | nil : OwnR h H [] [] []
  | no {v : V} {vs : List V} {ts : Rt} {G : List Addr} : OwnR h H vs ts G → OwnR h H (v :: vs) (none :: ts) G
  | cons {v : V} {vs : List V} {t : T} {ts : Rt} {F G : List Addr} : Own K C h H v t F → OwnR h H vs ts G → (∀ a, a ∈ F → a ∉ G) → OwnR h H (v :: vs) (some t :: ts) (F ++ G)
end

section
variable {K : PySem.W.Frag} {C : Nat → Addr} {h h' H H' : Hp}
theorem sqT_same {a : Addr} {xs : List V} (e : Same H H') (x : SqT K H a xs) : SqT K H' a xs := by
  rcases x with (x | ⟨o, x⟩) | x
  · exact .inl (.inl (e _ _ x))
  · exact .inl (.inr ⟨o, e _ _ x⟩)
  · exact .inr x
theorem rd_same {a : Addr} {u : HO} (e : Same H H') (x : Rd H a u) : Rd H' a u := by
  rcases x with x | ⟨o, x⟩
  · exact .inl (e _ _ x)
  · exact .inr ⟨o, e _ _ x⟩
mutual
theorem Rep.mono (e : Same h h') : ∀ {v : V} {d : D}, Rep K C h v d → Rep K C h' v d
  | _, _, .non => .non
  | _, _, .bl b => .bl b
  | _, _, .int i => .int i
  | _, _, .str x => .str x
  | _, _, .tup q r => .tup (sqT_same e q) (Reps.mono e r)
  | _, _, .lst q r => .lst (e _ _ q) (Reps.mono e r)
  | _, _, .scr q => .scr (e.seq q)
  | _, _, .dct q k r => .dct (rd_same e q) k (Reps.mono e r)
  | _, _, .ins q k r => .ins (e _ _ q) k (Reps.mono e r)
theorem Reps.mono (e : Same h h') : ∀ {vs : List V} {ds : List D}, Reps K C h vs ds → Reps K C h' vs ds
  | _, _, .nil => .nil
  | _, _, .cons a r => .cons (Rep.mono e a) (Reps.mono e r)
end
theorem Reps.length : ∀ {vs : List V} {ds : List D}, Reps K C h vs ds → vs.length = ds.length
  | _, _, .nil => rfl
  | _, _, .cons _ r => congrArg (· + 1) (Reps.length r)
theorem Reps.get : ∀ {vs : List V} {ds : List D} {i : Nat} {d : D}, Reps K C h vs ds → ds[i]? = some d → ∃ v, vs[i]? = some v ∧ Rep K C h v d
  | _, _, 0, _, .cons a r, e => ⟨_, rfl, by cases e; exact a⟩
  | _, _, i + 1, _, .cons a r, e => by
    obtain ⟨v, h1, h2⟩ := Reps.get (i := i) r (by simpa using e)
    exact ⟨v, by simpa using h1, h2⟩
theorem Reps.append : ∀ {vs ws : List V} {ds es : List D}, Reps K C h vs ds → Reps K C h ws es → Reps K C h (vs ++ ws) (ds ++ es)
  | _, _, _, _, .nil, q => q
  | _, _, _, _, .cons a r, q => .cons a (Reps.append r q)
theorem Reps.take : ∀ {vs : List V} {ds : List D} (n : Nat), Reps K C h vs ds → Reps K C h (vs.take n) (ds.take n)
  | _, _, 0, _ => .nil
  | _, _, _ + 1, .nil => .nil
  | _, _, n + 1, .cons a r => .cons a (Reps.take n r)
theorem Reps.drop : ∀ {vs : List V} {ds : List D} (n : Nat), Reps K C h vs ds → Reps K C h (vs.drop n) (ds.drop n)
  | _, _, 0, q => q
  | _, _, _ + 1, .nil => .nil
  | _, _, n + 1, .cons a r => Reps.drop n r
theorem Reps.reverse : ∀ {vs : List V} {ds : List D}, Reps K C h vs ds → Reps K C h vs.reverse ds.reverse
  | _, _, .nil => .nil
  | _, _, .cons a r => by
    rw [List.reverse_cons, List.reverse_cons]
    exact (Reps.reverse r).append (.cons a .nil)

mutual
theorem Own.at {v : V} {t : T} {F : List Addr} : Own K C h H v t F → ∀ a, a ∈ F → h a = none ∧ ∃ o, H a = some o
  | .cl _ => fun a z => absurd z (by simp)
  | .ls q n r _ => fun a z => by
    rcases List.mem_cons.mp z with rfl | z
    · exact ⟨n, _, q⟩
    · exact Owns.at r a z
  | .dc q n _ r _ => fun a z => by
    rcases List.mem_cons.mp z with rfl | z
    · exact ⟨n, _, q⟩
    · exact Owns.at r a z
  | .ob q n _ r _ => fun a z => by
    rcases List.mem_cons.mp z with rfl | z
    · exact ⟨n, _, q⟩
    · exact Owns.at r a z
theorem Owns.at {vs : List V} {ts : List T} {F : List Addr} : Owns K C h H vs ts F → ∀ a, a ∈ F → h a = none ∧ ∃ o, H a = some o
  | .nil => fun a z => absurd z (by simp)
  | .cons p r _ => fun a z => by
    rcases List.mem_append.mp z with z | z
    · exact Own.at p a z
    · exact Owns.at r a z
end
theorem OwnR.at {vs : List V} {ts : Rt} {F : List Addr} : OwnR K C h H vs ts F → ∀ a, a ∈ F → h a = none ∧ ∃ o, H a = some o
  | .nil => fun a z => absurd z (by simp)
  | .no r => OwnR.at r
  | .cons p r _ => fun a z => by
    rcases List.mem_append.mp z with z | z
    · exact Own.at p a z
    · exact OwnR.at r a z
theorem OwnR.length {vs : List V} {ts : Rt} {F : List Addr} : OwnR K C h H vs ts F → vs.length = ts.length
  | .nil => rfl
  | .no r => congrArg (· + 1) (OwnR.length r)
  | .cons _ r _ => congrArg (· + 1) (OwnR.length r)

mutual
/-- what lies at F stands as it stood -/
theorem Own.stay (e : Same h h') : ∀ {v : V} {t : T} {F : List Addr}, Own K C h H v t F → (∀ a, a ∈ F → H' a = H a ∧ h' a = none) → Own K C h' H' v t F
  | _, _, _, .cl q, _ => .cl (q.mono e)
  | _, _, _, .ls q n r o, k => .ls ((k _ List.mem_cons_self).1.trans q) (k _ List.mem_cons_self).2 (Owns.stay e r fun a z => k a (List.mem_cons_of_mem _ z)) o
  | _, _, _, .dc q n i r o, k => .dc ((k _ List.mem_cons_self).1.trans q) (k _ List.mem_cons_self).2 i (Owns.stay e r fun a z => k a (List.mem_cons_of_mem _ z)) o
  | _, _, _, .ob q n i r o, k => .ob ((k _ List.mem_cons_self).1.trans q) (k _ List.mem_cons_self).2 i (Owns.stay e r fun a z => k a (List.mem_cons_of_mem _ z)) o
theorem Owns.stay (e : Same h h') : ∀ {vs : List V} {ts : List T} {F : List Addr}, Owns K C h H vs ts F → (∀ a, a ∈ F → H' a = H a ∧ h' a = none) → Owns K C h' H' vs ts F
  | _, _, _, .nil, _ => .nil
  | _, _, _, .cons p r dj, k => .cons (Own.stay e p fun a z => k a (List.mem_append_left _ z)) (Owns.stay e r fun a z => k a (List.mem_append_right _ z)) dj
end
theorem OwnR.stay (e : Same h h') : ∀ {vs : List V} {ts : Rt} {F : List Addr}, OwnR K C h H vs ts F → (∀ a, a ∈ F → H' a = H a ∧ h' a = none) → OwnR K C h' H' vs ts F
  | _, _, _, .nil, _ => .nil
  | _, _, _, .no r, k => .no (OwnR.stay e r k)
  | _, _, _, .cons p r dj, k => .cons (Own.stay e p fun a z => k a (List.mem_append_left _ z)) (OwnR.stay e r fun a z => k a (List.mem_append_right _ z)) dj
/-- h with what H holds at F -/
def ov (h H : Hp) (F : List Addr) : Hp := fun a => if a ∈ F then H a else h a
theorem ov_in {F : List Addr} {a : Addr} (z : a ∈ F) : ov h H F a = H a := if_pos z
theorem ov_out {F : List Addr} {a : Addr} (z : a ∉ F) : ov h H F a = h a := if_neg z
theorem ov_same {F : List Addr} (k : ∀ a, a ∈ F → h a = none) : Same h (ov h H F) := fun a o e => by
  by_cases z : a ∈ F
  · rw [k a z] at e; cases e
  · rw [ov_out z]; exact e
theorem ov_sub {F : List Addr} (k : Same h H) : Same (ov h H F) H := fun a o e => by
  by_cases z : a ∈ F
  · rw [ov_in z] at e; exact e
  · rw [ov_out z] at e; exact k a o e
mutual
/-- an owned tree as data of a larger heap -/
theorem Own.rep {g : Hp} (e : Same h g) : ∀ {v : V} {t : T} {F : List Addr}, Own K C h H v t F → (∀ a, a ∈ F → g a = H a) → Rep K C g v t.d
  | _, _, _, .cl q, _ => q.mono e
  | _, _, _, .ls q n r o, k => .lst ((k _ List.mem_cons_self).trans q) (Owns.rep e r fun a z => k a (List.mem_cons_of_mem _ z))
  | _, _, _, .dc q n i r o, k => .dct (.inl ((k _ List.mem_cons_self).trans q)) i (Owns.rep e r fun a z => k a (List.mem_cons_of_mem _ z))
  | _, _, _, .ob q n i r o, k => .ins ((k _ List.mem_cons_self).trans q) i (Owns.rep e r fun a z => k a (List.mem_cons_of_mem _ z))
theorem Owns.rep {g : Hp} (e : Same h g) : ∀ {vs : List V} {ts : List T} {F : List Addr}, Owns K C h H vs ts F → (∀ a, a ∈ F → g a = H a) → Reps K C g vs (T.ds ts)
  | _, _, _, .nil, _ => .nil
  | _, _, _, .cons p r dj, k => .cons (Own.rep e p fun a z => k a (List.mem_append_left _ z)) (Owns.rep e r fun a z => k a (List.mem_append_right _ z))
end
theorem Owns.length : ∀ {vs : List V} {ts : List T} {F : List Addr}, Owns K C h H vs ts F → vs.length = ts.length
  | _, _, _, .nil => rfl
  | _, _, _, .cons _ r _ => congrArg (· + 1) (Owns.length r)
theorem Owns.ofCls : ∀ {vs : List V} {ds : List D}, Reps K C h vs ds → Owns K C h H vs (cls ds) []
  | _, _, .nil => .nil
  | _, _, .cons a r => .cons (F := []) (G := []) (.cl a) (Owns.ofCls r) fun _ z => absurd z (by simp)

mutual
theorem Own.uniq {g : Hp} : ∀ {v : V} {t : T} {F G : List Addr}, Own K C h H v t F → Own K C g H v t G → F = G
  | _, _, _, _, .cl _, .cl _ => rfl
  | _, _, _, _, .ls q _ r _, .ls q' _ r' _ => by
    rw [q] at q'
    cases q'
    rw [Owns.uniq r r']
  | _, _, _, _, .dc q _ _ r _, .dc q' _ _ r' _ => by
    rw [q] at q'
    cases q'
    rw [Owns.uniq r r']
  | _, _, _, _, .ob q _ _ r _, .ob q' _ _ r' _ => by
    rw [q] at q'
    cases q'
    rw [Owns.uniq r r']
theorem Owns.uniq {g : Hp} : ∀ {vs : List V} {ts : List T} {F G : List Addr}, Owns K C h H vs ts F → Owns K C g H vs ts G → F = G
  | _, _, _, _, .nil, .nil => rfl
  | _, _, _, _, .cons p r _, .cons p' r' _ => by rw [Own.uniq p p', Owns.uniq r r']
end
theorem OwnR.uniq {g : Hp} : ∀ {vs : List V} {ts : Rt} {F G : List Addr}, OwnR K C h H vs ts F → OwnR K C g H vs ts G → F = G
  | _, _, _, _, .nil, .nil => rfl
  | _, _, _, _, .no r, .no r' => OwnR.uniq r r'
  | _, _, _, _, .cons p r _, .cons p' r' _ => by rw [Own.uniq p p', OwnR.uniq r r']
/-! ### one step of a frame's run -/
/-- from (F, h, H) to (F', h', H'): what is not at F stands; h has grown by what was at F or is new -/
structure Stp (F : List Addr) (h H : Hp) (F' : List Addr) (h' H' : Hp) : Prop where
  keep : ∀ a o, H a = some o → a ∉ F → H' a = some o
  up : Same h h'
  new : ∀ a o, h a = none → h' a = some o → a ∈ F ∨ H a = none
  fp : ∀ a, a ∈ F' → a ∈ F ∨ H a = none
theorem Stp.refl {F : List Addr} : Stp F h H F h H := by
  refine ⟨fun _ _ e _ => e, fun _ _ e => e, fun a o n e => ?_, fun _ z => .inl z⟩
  rw [n] at e
  cases e
theorem Stp.trans {F F1 F2 : List Addr} {h1 h2 H1 H2 : Hp} (x : Stp F h H F1 h1 H1) (y : Stp F1 h1 H1 F2 h2 H2) : Stp F h H F2 h2 H2 := by
  have back : ∀ a, H1 a = none → a ∈ F ∨ H a = none := fun a n => by
    by_cases z : a ∈ F
    · exact .inl z
    · right
      cases q : H a with
      | none => rfl
      | some o => rw [x.keep a o q z] at n; cases n
  refine ⟨fun a o e z => ?_, fun a o e => y.up a o (x.up a o e), fun a o n e => ?_, fun a z => ?_⟩
  · refine y.keep a o (x.keep a o e z) fun z1 => ?_
    rcases x.fp a z1 with z2 | z2
    · exact z z2
    · rw [z2] at e; cases e
  · cases q : h1 a with
    | some u => exact x.new a u n q
    | none =>
      rcases y.new a o q e with z | z
      · exact x.fp a z
      · exact back a z
  · rcases y.fp a z with z | z
    · exact x.fp a z
    · exact back a z
/-- a tree that stands beside the frame's roots -/
theorem Stp.own {F F' G : List Addr} {v : V} {t : T} (x : Stp F h H F' h' H') (o : Own K C h H v t G) (dj : ∀ a, a ∈ G → a ∉ F) : Own K C h' H' v t G ∧ ∀ a, a ∈ G → a ∉ F' := by
  refine ⟨o.stay x.up fun a z => ?_, fun a z z' => ?_⟩
  · obtain ⟨n, u, e⟩ := o.at a z
    refine ⟨(x.keep a u e (dj a z)).trans e.symm, ?_⟩
    cases q : h' a with
    | none => rfl
    | some w =>
      rcases x.new a w n q with y | y
      · exact absurd y (dj a z)
      · rw [y] at e; cases e
  · obtain ⟨n, u, e⟩ := o.at a z
    rcases x.fp a z' with y | y
    · exact dj a z y
    · rw [y] at e; cases e
theorem Stp.owns {F F' G : List Addr} {vs : List V} {ts : List T} (x : Stp F h H F' h' H') (o : Owns K C h H vs ts G) (dj : ∀ a, a ∈ G → a ∉ F) : Owns K C h' H' vs ts G ∧ ∀ a, a ∈ G → a ∉ F' := by
  refine ⟨o.stay x.up fun a z => ?_, fun a z z' => ?_⟩
  · obtain ⟨n, u, e⟩ := o.at a z
    refine ⟨(x.keep a u e (dj a z)).trans e.symm, ?_⟩
    cases q : h' a with
    | none => rfl
    | some w =>
      rcases x.new a w n q with y | y
      · exact absurd y (dj a z)
      · rw [y] at e; cases e
  · obtain ⟨n, u, e⟩ := o.at a z
    rcases x.fp a z' with y | y
    · exact dj a z y
    · rw [y] at e; cases e

/-- how a slot's value lies -/
def SRep (K : PySem.W.Frag) (C : Nat → Addr) (h : Hp) (vs : List V) (v : V) : S → Prop
  | .v d => Rep K C h v d
  | .r k => vs[k]? = some v
structure Rel (K : PySem.W.Frag) (C : Nat → Addr) (σ : L2.St) (H h : Hp) (sl : Sl) (rt : Rt) (vs : List V) (F : List Addr) : Prop where
  sub : Same h H
  own : OwnR K C h H vs rt F
  slt : ∀ (i : Nat) (s : S), sl[i]? = some (some s) → ∃ v, σ[i]? = some (some v) ∧ SRep K C h vs v s
  len : σ.length = sl.length
theorem SRep.mono {vs : List V} {v : V} {s : S} (e : Same h h') (x : SRep K C h vs v s) : SRep K C h' vs v s := by
  cases s with
  | v d => exact Rep.mono e x
  | r k => exact x
/-- a value was made: H and h have grown by what is new -/
structure Grew (h H h' H' : Hp) : Prop where
  big : Same H H'
  sml : Same h h'
  sub : Same h' H'
  new : ∀ a o, h a = none → h' a = some o → H a = none
theorem Grew.refl (e : Same h H) : Grew h H h H := by
  refine ⟨fun _ _ e => e, fun _ _ e => e, e, fun a o n q => ?_⟩
  rw [n] at q
  cases q
theorem Grew.trans {h1 H1 h2 H2 : Hp} (x : Grew h H h1 H1) (y : Grew h1 H1 h2 H2) : Grew h H h2 H2 := by
  refine ⟨fun a o e => y.big a o (x.big a o e), fun a o e => y.sml a o (x.sml a o e), y.sub, fun a o n e => ?_⟩
  cases q : h1 a with
  | some u => exact x.new a u n q
  | none => exact L2.Same.free x.big (y.new a o q e)
theorem Grew.stp {F : List Addr} (g : Grew h H h' H') : Stp F h H F h' H' := ⟨fun a o e _ => g.big a o e, g.sml, fun a o n e => .inr (g.new a o n e), fun _ z => .inl z⟩
theorem Grew.rel {σ : L2.St} {sl : Sl} {rt : Rt} {vs : List V} {F : List Addr} (g : Grew h H h' H') (r : Rel K C σ H h sl rt vs F) : Rel K C σ H' h' sl rt vs F := by
  refine ⟨g.sub, r.own.stay g.sml fun a z => ?_, fun i s e => ?_, r.len⟩
  · obtain ⟨n, o, e⟩ := r.own.at a z
    refine ⟨(g.big a o e).trans e.symm, ?_⟩
    cases q : h' a with
    | none => rfl
    | some u => rw [g.new a u n q] at e; cases e
  · obtain ⟨v, e1, e2⟩ := r.slt i s e
    exact ⟨v, e1, e2.mono g.sml⟩
/-- a tree beside the roots becomes data -/
theorem Rel.shut {σ : L2.St} {sl : Sl} {rt : Rt} {vs : List V} {F G : List Addr} {v : V} {t : T} (r : Rel K C σ H h sl rt vs F) (o : Own K C h H v t G) (dj : ∀ a, a ∈ G → a ∉ F) :
    Rel K C σ H (ov h H G) sl rt vs F ∧ Rep K C (ov h H G) v t.d := by
  have e1 : Same h (ov h H G) := ov_same fun a z => (o.at a z).1
  refine ⟨⟨ov_sub r.sub, r.own.stay e1 fun a z => ⟨rfl, ?_⟩, fun i s e => ?_, r.len⟩, o.rep e1 fun a z => ov_in z⟩
  · rw [ov_out fun z' => dj a z' z]
    exact (r.own.at a z).1
  · obtain ⟨w, e2, e3⟩ := r.slt i s e
    exact ⟨w, e2, e3.mono e1⟩
theorem Stp.shut {F F' G : List Addr} {v : V} {t : T} (x : Stp F h H F' h' H') (o : Own K C h' H' v t G) (fr : ∀ a, a ∈ G → a ∈ F ∨ H a = none) : Stp F h H F' (ov h' H' G) H' := by
  refine ⟨x.keep, fun a u e => ov_same (fun b z => (o.at b z).1) a u (x.up a u e), fun a u n e => ?_, x.fp⟩
  by_cases z : a ∈ G
  · exact fr a z
  · rw [ov_out z] at e
    exact x.new a u n e
theorem Rel.shuts {σ : L2.St} {sl : Sl} {rt : Rt} {vs : List V} {F G : List Addr} {ws : List V} {ts : List T} (r : Rel K C σ H h sl rt vs F) (o : Owns K C h H ws ts G) (dj : ∀ a, a ∈ G → a ∉ F) :
    Rel K C σ H (ov h H G) sl rt vs F ∧ Reps K C (ov h H G) ws (T.ds ts) := by
  have e1 : Same h (ov h H G) := ov_same fun a z => (o.at a z).1
  refine ⟨⟨ov_sub r.sub, r.own.stay e1 fun a z => ⟨rfl, ?_⟩, fun i s e => ?_, r.len⟩, o.rep e1 fun a z => ov_in z⟩
  · rw [ov_out fun z' => dj a z' z]
    exact (r.own.at a z).1
  · obtain ⟨w, e2, e3⟩ := r.slt i s e
    exact ⟨w, e2, e3.mono e1⟩
theorem Stp.shuts {F F' G : List Addr} {vs : List V} {ts : List T} (x : Stp F h H F' h' H') (o : Owns K C h' H' vs ts G) (fr : ∀ a, a ∈ G → a ∈ F ∨ H a = none) : Stp F h H F' (ov h' H' G) H' := by
  refine ⟨x.keep, fun a u e => ov_same (fun b z => (o.at b z).1) a u (x.up a u e), fun a u n e => ?_, x.fp⟩
  by_cases z : a ∈ G
  · exact fr a z
  · rw [ov_out z] at e
    exact x.new a u n e
end
end Mi
/-! MiOps: the operators by values, over the model. -/
namespace Mi
open PySem PySem.Spec PyProof.Rows L2

section
variable {K : PySem.W.Frag} {C : Nat → Addr} {h H : Hp} {Q : VK}
/-- what a value operation hands on -/
def Made (K : PySem.W.Frag) (C : Nat → Addr) (h H : Hp) (Q : VK) (t : T) : Prop := ∀ w h' H' G, Grew h H h' H' → Own K C h' H' w t G → (∀ a, a ∈ G → H a = none) → Q w H'
theorem Made.same {v : V} {d : D} (e : Same h H) (m : Made K C h H Q (.cl d)) (r : Rep K C h v d) : Q v H := m v h H [] (Grew.refl e) (.cl r) fun a z => absurd z (by simp)
theorem upd_grew {p : Addr} {o : HO} (e : Same h H) (n : H p = none) : Grew h H (upd h p o) (upd H p o) := by
  have hn : h p = none := e.free n
  refine ⟨fun a u q => by rw [upd_ne (ne_of_none q n)]; exact q, fun a u q => by rw [upd_ne (ne_of_none q hn)]; exact q, fun a u q => ?_, fun a u z q => ?_⟩
  · by_cases x : a = p
    · subst x
      rw [upd_same] at q ⊢
      exact q
    · rw [upd_ne x] at q ⊢
      exact e a u q
  · by_cases x : a = p
    · subst x; exact n
    · rw [upd_ne x] at q
      rw [z] at q; cases q
theorem upd_grew0 {p : Addr} {o : HO} (e : Same h H) (n : H p = none) : Grew h H h (upd H p o) := by
  refine ⟨fun a u q => by rw [upd_ne (ne_of_none q n)]; exact q, fun a u q => q, fun a u q => ?_, fun a u z q => ?_⟩
  · rw [upd_ne (ne_of_none (e a u q) n)]; exact e a u q
  · rw [z] at q; cases q
theorem Made.tup {p : Addr} {vs : List V} {ds : List D} (e : Same h H) (m : Made K C h H Q (.cl (.tup ds))) (r : Reps K C h vs ds) (n : H p = none) : Q (.ref p) (upd H p (.tup vs)) := by
  have g : Grew h H (upd h p (.tup vs)) (upd H p (.tup vs)) := upd_grew e n
  exact m (.ref p) _ _ [] g (.cl (.tup (SqT.of upd_same) (r.mono g.sml))) fun a z => absurd z (by simp)
theorem Made.lst {p : Addr} {vs : List V} {ts : List T} {F : List Addr} (e : Same h H) (m : Made K C h H Q (.ls ts)) (r : Owns K C h H vs ts F) (hF : F = []) (n : H p = none) : Q (.ref p) (upd H p (.lst vs)) := by
  subst hF
  have g : Grew h H h (upd H p (.lst vs)) := upd_grew0 e n
  exact m (.ref p) _ _ [p] g (.ls upd_same (e.free n) (r.stay g.sml fun a z => absurd z (by simp)) (by simp)) fun a z => by
    rw [List.mem_singleton.mp z]; exact n
theorem Made.lstD {p : Addr} {vs : List V} {ds : List D} (e : Same h H) (m : Made K C h H Q (.ls (cls ds))) (r : Reps K C h vs ds) (n : H p = none) : Q (.ref p) (upd H p (.lst vs)) :=
  Made.lst e m (Owns.ofCls r) rfl n
theorem Reps.flatRep (n : Nat) {vs : List V} {ds : List D} (r : Reps K C h vs ds) : Reps K C h (List.replicate n vs).flatten (List.replicate n ds).flatten := by
  induction n with
  | zero => exact .nil
  | succ n ih =>
    rw [List.replicate_succ, List.replicate_succ, List.flatten_cons, List.flatten_cons]
    exact r.append ih
/-- data as the library's == and repr take it -/
theorem Rep.nodata : ∀ {v : V} {d : D}, Rep K C h v d → True := fun _ => trivial
mutual
theorem Rep.dp (e : Same h H) : ∀ {v : V} {d : D} {p : PyData}, Rep K C h v d → d.py = some p → Dp K H v p
  | _, _, _, .non, q => by cases q; exact .non
  | _, _, _, .bl b, q => by cases q; exact .bl b
  | _, _, _, .int i, q => by cases q; exact .int i
  | _, _, _, .str x, q => by cases q; exact .str x
  | _, _, _, .tup (ds := ds) s r, q => by
    unfold D.py at q
    cases z : D.pys ds with
    | none => rw [z] at q; cases q
    | some ps =>
      rw [z] at q
      cases q
      exact .tup (sqT_same e s) (Reps.dp e r z)
  | _, _, _, .lst (ds := ds) s r, q => by
    unfold D.py at q
    cases z : D.pys ds with
    | none => rw [z] at q; cases q
    | some ps =>
      rw [z] at q
      cases q
      exact .lst (SqL.of (e _ _ s)) (Reps.dp e r z)
  | _, _, _, .dct _ _ _, q => by unfold D.py at q; cases q
  | _, _, _, .ins _ _ _, q => by unfold D.py at q; cases q
  | _, _, _, .scr _, q => by unfold D.py at q; cases q
theorem Reps.dp (e : Same h H) : ∀ {vs : List V} {ds : List D} {ps : List PyData}, Reps K C h vs ds → D.pys ds = some ps → DpAll K H vs ps
  | _, _, _, .nil, q => by unfold D.pys at q; cases q; exact .nil
  | _, _, _, .cons (d := d) (ds := ds) a r, q => by
    unfold D.pys at q
    split at q
    · rename_i x y e1 e2
      cases q
      exact .cons (Rep.dp e a e1) (Reps.dp e r e2)
    · cases q
end

def BOp.py : BOp → Operator
  | .add => .Add | .sub => .Sub | .mul => .Mult | .fdiv => .FloorDiv | .mod => .Mod | .pow => .Pow
def COp.py : COp → CmpOp
  | .eq => .Eq | .ne => .NotEq | .lt => .Lt | .le => .LtE | .gt => .Gt | .ge => .GtE | .isn => .Is | .notn => .IsNot | .ist => .Is | .notist => .IsNot | .mem => .In | .nmem => .NotIn
def rB (K : PySem.W.Frag) (C : Nat → Addr) (op : BOp) : R2 := fun u v H Q => ∃ h x y t, Same h H ∧ Rep K C h u x ∧ Rep K C h v y ∧ opB op x y = some t ∧ Made K C h H Q t
def rC (K : PySem.W.Frag) (C : Nat → Addr) (op : COp) : R2 := fun u v H Q => ∃ h x y b, Same h H ∧ Rep K C h u x ∧ Rep K C h v y ∧ opC op x y = some b ∧ Q (.bl b) H
end

section
variable {X : Cx} {C : Nat → Addr}
/-- // by any int but 0 of less than 9,000 bits -/
theorem op_fdivA : OpR X (binaryOp .FloorDiv) (rI (fun _ j => j ≠ 0 ∧ j.natAbs.log2 < 9000) fun i j => .int (i.fdiv j)) := opI fun _ _ _ _ _ _ _ hc q => floordiv_int hc.1 q (.inl (PyProof.noPylong_of_log2 hc.2))

theorem rep_int {K : PySem.W.Frag} {h : Hp} {v : V} {i : Int} (r : Rep K C h v (.int i)) : v = .int i := by cases r; rfl
theorem rep_bl {K : PySem.W.Frag} {h : Hp} {v : V} {i : Bool} (r : Rep K C h v (.bl i)) : v = .bl i := by cases r; rfl
theorem rep_str {K : PySem.W.Frag} {h : Hp} {v : V} {i : Str} (r : Rep K C h v (.str i)) : v = .str i := by cases r; rfl
theorem rep_non {K : PySem.W.Frag} {h : Hp} {v : V} (r : Rep K C h v .non) : v = .non := by cases r; rfl

theorem mulOk_ok {i j : Int} (h : mulOk i j = true) : CMulW i j := by
  unfold mulOk at h
  have h' := of_decide_eq_true h
  exact h'
theorem opB_ok (op : BOp) : OpR X (binaryOp op.py) (rB X.K C op) := by
  intro pins s σ H a b v u Q I ra rb hh
  obtain ⟨h, x, y, t, hs, r1, r2, e, md⟩ := hh
  unfold opB at e
  split at e
  · -- int + int
    cases e; cases r1; cases r2
    exact op_add pins s σ H _ _ v u Q I ra rb ⟨_, _, rfl, rfl, md.same hs (.int _)⟩
  · split at e
    · rename_i hz
      cases e; cases r1; cases r2
      exact op_add_str pins s σ H _ _ v u Q I ra rb ⟨_, _, rfl, rfl, hz, md.same hs (.str _)⟩
    · cases e
  · split at e
    · rename_i hz
      cases e
      cases r1 with
      | lst q1 s1 =>
        cases r2 with
        | lst q2 s2 => exact op_cat pins s σ H _ _ v u Q I ra rb ⟨_, _, _, _, rfl, rfl, hs _ _ q1, hs _ _ q2, by rw [s1.length, s2.length]; exact hz, fun p n => Made.lstD hs md (s1.append s2) n⟩
    · cases e
  · split at e
    · rename_i hz
      cases e
      cases r1 with
      | tup q1 s1 =>
        cases r2 with
        | tup q2 s2 =>
          refine op_catA pins s σ H _ _ v u Q I ra rb ⟨_, _, _, _, rfl, rfl, sqT_same hs q1, sqT_same hs q2, by rw [s1.length, s2.length]; exact hz, fun z => ?_, fun _ z => ?_, fun _ _ p n => Made.tup hs md (s1.append s2) n⟩
          · subst z
            cases s1
            exact md.same hs (.tup q2 s2)
          · subst z
            cases s2
            rw [List.append_nil] at md
            exact md.same hs (.tup q1 s1)
    · cases e
  · cases e; cases r1; cases r2
    exact op_sub pins s σ H _ _ v u Q I ra rb ⟨_, _, rfl, rfl, md.same hs (.int _)⟩
  · split at e
    · rename_i hz
      cases e; cases r1; cases r2
      exact op_mulW pins s σ H _ _ v u Q I ra rb ⟨_, _, rfl, rfl, mulOk_ok hz, md.same hs (.int _)⟩
    · cases e
  · split at e
    · rename_i hz
      cases e; cases r2
      simp only [Bool.and_eq_true, decide_eq_true_eq] at hz
      cases r1 with
      | lst q1 s1 =>
        exact op_rep pins s σ H _ _ v u Q I ra rb ⟨_, _, _, rfl, rfl, hs _ _ q1, hz.1.2, hz.2, by rw [s1.length]; exact hz.1.1, fun p n => Made.lstD hs md (s1.flatRep _) n⟩
    · cases e
  · split at e
    · cases e
    · rename_i hz
      cases e; cases r1; cases r2
      exact op_fdivA pins s σ H _ _ v u Q I ra rb ⟨_, _, rfl, rfl, ⟨fun z => hz (.inl z), Nat.not_le.mp fun z => hz (.inr z)⟩, md.same hs (.int _)⟩
  · split at e
    · cases e
    · rename_i hz
      cases e; cases r1; cases r2
      exact op_modN pins s σ H _ _ v u Q I ra rb ⟨_, _, rfl, rfl, hz, md.same hs (.int _)⟩
  · split at e
    · rename_i hz
      cases e; cases r1; cases r2
      exact op_pow pins s σ H _ _ v u Q I ra rb ⟨_, _, rfl, rfl, hz, md.same hs (.int _)⟩
    · cases e
  · cases e
theorem eqD_ok {K : PySem.W.Frag} {h H : Hp} {x y : D} {u v : V} {b : Bool} (hs : Same h H) (r1 : Rep K C h u x) (r2 : Rep K C h v y) (z : eqD x y = some b) :
    ∃ d e, Dp K H u d ∧ Dp K H v e ∧ SeqAt.shaped d = true ∧ SeqAt.shaped e = true ∧ PyData.eqv d e = b := by
  unfold eqD at z
  split at z
  · rename_i p1 p2 e1 e2
    split at z
    · rename_i hz
      cases z
      rw [Bool.and_eq_true] at hz
      exact ⟨p1, p2, r1.dp hs e1, r2.dp hs e2, hz.1, hz.2, rfl⟩
    · cases z
  · cases z
theorem opC_ok (hu : X.A.units + 64 < cLine) (op : COp) : OpR X (compareOp op.py) (rC X.K C op) := by
  intro pins s σ H a b v u Q I ra rb hh
  obtain ⟨h, x, y, t, hs, r1, r2, e, q⟩ := hh
  unfold opC at e
  split at e
  · obtain ⟨d, e', d1, d2, s1, s2, ev⟩ := eqD_ok hs r1 r2 e
    exact op_eqD hu pins s σ H _ _ v u Q I ra rb ⟨d, e', d1, d2, s1, s2, by rw [ev]; exact q⟩
  · obtain ⟨b', z, rfl⟩ := Option.map_eq_some_iff.mp e
    obtain ⟨d, e', d1, d2, s1, s2, ev⟩ := eqD_ok hs r1 r2 z
    exact op_neD hu pins s σ H _ _ v u Q I ra rb ⟨d, e', d1, d2, s1, s2, by rw [ev]; exact q⟩
  · cases e; cases r1; cases r2; exact op_lt pins s σ H _ _ v u Q I ra rb ⟨_, _, rfl, rfl, q⟩
  · cases e; cases r1; cases r2; exact op_le pins s σ H _ _ v u Q I ra rb ⟨_, _, rfl, rfl, q⟩
  · cases e; cases r1; cases r2; exact op_gt pins s σ H _ _ v u Q I ra rb ⟨_, _, rfl, rfl, q⟩
  · cases e; cases r1; cases r2; exact op_ge pins s σ H _ _ v u Q I ra rb ⟨_, _, rfl, rfl, q⟩
  · cases e; cases r2
    refine op_isN pins s σ H _ _ v u Q I ra rb ⟨rfl, ?_⟩
    cases r1 <;> exact q
  · cases e; cases r2
    refine op_notN pins s σ H _ _ v u Q I ra rb ⟨rfl, ?_⟩
    cases r1 <;> exact q
  · cases e; cases r2; cases r1
    refine op_isBl pins s σ H _ _ v u Q I ra rb ⟨_, _, rfl, rfl, ?_⟩
    cases t <;> exact q
  · rename_i k
    cases e; cases r2; cases r1
    refine op_notBl pins s σ H _ _ v u Q I ra rb ⟨_, _, rfl, rfl, ?_⟩
    cases k <;> exact q
  · cases e
end
end Mi
/-! MiBlt: built-in functions, subscripts, slices by values. -/
namespace Mi
open PySem PySem.Spec PyProof.Rows L2

/-- a value lies as data; a list's own object may stand in H alone -/
inductive Lie (K : PySem.W.Frag) (C : Nat → Addr) (h H : Hp) : V → D → Prop
  | rep {v : V} {d : D} : Rep K C h v d → Lie K C h H v d
  | top {a : Addr} {vs : List V} {ds : List D} : H a = some (.lst vs) → Reps K C h vs ds → Lie K C h H (.ref a) (.lst ds)
section
variable {K : PySem.W.Frag} {C : Nat → Addr} {h H : Hp} {Q : VK}
theorem Lie.lst {v : V} {ds : List D} (e : Same h H) (l : Lie K C h H v (.lst ds)) : ∃ a vs, v = .ref a ∧ H a = some (.lst vs) ∧ Reps K C h vs ds := by
  cases l with
  | rep r => cases r with | lst q s => exact ⟨_, _, rfl, e _ _ q, s⟩
  | top q s => exact ⟨_, _, rfl, q, s⟩
theorem Lie.tup {v : V} {ds : List D} (e : Same h H) (l : Lie K C h H v (.tup ds)) : ∃ a vs, v = .ref a ∧ SqT K H a vs ∧ Reps K C h vs ds := by
  cases l with
  | rep r => cases r with | tup q s => exact ⟨_, _, rfl, sqT_same e q, s⟩
theorem Lie.scr {v : V} {ns : List Int} (e : Same h H) (l : Lie K C h H v (.scr ns)) : ∃ a, v = .ref a ∧ SqL K H a (ns.map V.int) := by
  cases l with
  | rep r => cases r with | scr q => exact ⟨_, rfl, e.seq q⟩
theorem reps_ints : ∀ (ns : List Int), Reps K C h (ns.map V.int) (ns.map D.int)
  | [] => .nil
  | n :: ns => .cons (.int n) (reps_ints ns)
theorem intsOf_ok : ∀ {vs : List V} {ds : List D} {ns : List Int}, Reps K C h vs ds → intsOf ds = some ns → vs = ns.map V.int
  | _, _, ns, .nil, e => by
    unfold intsOf at e
    cases e
    rfl
  | _, _, ns, .cons (d := d) (ds := ds) a r, e => by
    cases a with
    | int i =>
      unfold intsOf at e
      obtain ⟨ms, h1, rfl⟩ := Option.map_eq_some_iff.mp e
      rw [List.map_cons, intsOf_ok r h1]
    | _ => cases e
theorem blsOf_ok : ∀ {vs : List V} {ds : List D} {ns : List Bool}, Reps K C h vs ds → blsOf ds = some ns → vs = ns.map V.bl
  | _, _, ns, .nil, e => by
    unfold blsOf at e
    cases e
    rfl
  | _, _, ns, .cons (d := d) (ds := ds) a r, e => by
    cases a with
    | bl i =>
      unfold blsOf at e
      obtain ⟨ms, h1, rfl⟩ := Option.map_eq_some_iff.mp e
      rw [List.map_cons, blsOf_ok r h1]
    | _ => cases e
theorem maxI_ge : ∀ (r : List Int) (m : Int), m ≤ maxI m r ∧ ∀ y ∈ r, y ≤ maxI m r
  | [], m => ⟨Int.le_refl _, fun y z => absurd z (by simp)⟩
  | x :: r, m => by
    obtain ⟨h1, h2⟩ := maxI_ge r (if x > m then x else m)
    unfold maxI
    have h3 : m ≤ (if x > m then x else m) ∧ x ≤ (if x > m then x else m) := by split <;> omega
    exact ⟨Int.le_trans h3.1 h1, fun y z => (List.mem_cons.mp z).elim (fun e => by rw [e]; exact Int.le_trans h3.2 h1) (h2 y)⟩
theorem maxI_mem : ∀ (r : List Int) (m : Int), maxI m r ∈ m :: r
  | [], m => List.mem_singleton.mpr rfl
  | x :: r, m => by
    unfold maxI
    have q := maxI_mem r (if x > m then x else m)
    rcases List.mem_cons.mp q with z | z
    · rw [z]
      split <;> simp
    · exact List.mem_cons_of_mem _ (List.mem_cons_of_mem _ z)
theorem minI_le : ∀ (r : List Int) (m : Int), minI m r ≤ m ∧ ∀ y ∈ r, minI m r ≤ y
  | [], m => ⟨Int.le_refl _, fun y z => absurd z (by simp)⟩
  | x :: r, m => by
    obtain ⟨h1, h2⟩ := minI_le r (if x < m then x else m)
    unfold minI
    have h3 : (if x < m then x else m) ≤ m ∧ (if x < m then x else m) ≤ x := by split <;> omega
    exact ⟨Int.le_trans h1 h3.1, fun y z => (List.mem_cons.mp z).elim (fun e => by rw [e]; exact Int.le_trans h1 h3.2) (h2 y)⟩
theorem minI_mem : ∀ (r : List Int) (m : Int), minI m r ∈ m :: r
  | [], m => List.mem_singleton.mpr rfl
  | x :: r, m => by
    unfold minI
    have q := minI_mem r (if x < m then x else m)
    rcases List.mem_cons.mp q with z | z
    · rw [z]
      split <;> simp
    · exact List.mem_cons_of_mem _ (List.mem_cons_of_mem _ z)
def F1.val : F1 → Value
  | .len => .builtin "len" | .int => .type "int" | .str => .type "str" | .repr => .builtin "repr" | .tuple => .type "tuple" | .list => .type "list" | .sum => .builtin "sum"
  | .max => .builtin "max" | .min => .builtin "min" | .abs => .builtin "abs" | .all => .builtin "all" | .any => .builtin "any"
def rF (K : PySem.W.Frag) (C : Nat → Addr) (f : F1) : List V → Hp → VK → Prop := fun us H Q => ∃ h u x t, us = [u] ∧ Same h H ∧ Lie K C h H u x ∧ f1D f x = some t ∧ Made K C h H Q t
def F2.val : F2 → Value
  | .max => .builtin "max" | .min => .builtin "min"
def rF2 (K : PySem.W.Frag) (C : Nat → Addr) (f : F2) : List V → Hp → VK → Prop := fun us H Q => ∃ h u x v y t, us = [u, v] ∧ Same h H ∧ Rep K C h u x ∧ Rep K C h v y ∧ f2D f x y = some t ∧ Made K C h H Q (.cl t)
theorem lenD_ok {u : V} {x : D} {n : Int} (e : Same h H) (l : Lie K C h H u x) (q : lenD x = some n) : (∃ m : Nat, n = m ∧ LenV K u H m) ∨ ∃ a kvs, u = .ref a ∧ n = ((kvs.length : Nat) : Int) ∧ Rd H a (.dK kvs) := by
  cases x with
  | lst ds =>
    obtain ⟨a, vs, rfl, q1, s⟩ := l.lst e
    cases q
    exact .inl ⟨_, rfl, .inl ⟨vs, SqL.of q1, s.length.symm⟩⟩
  | tup ds =>
    obtain ⟨a, vs, rfl, q1, s⟩ := l.tup e
    cases q
    exact .inl ⟨_, rfl, .inr ⟨vs, q1, s.length.symm⟩⟩
  | scr ns =>
    obtain ⟨a, rfl, q1⟩ := l.scr e
    cases q
    exact .inl ⟨_, rfl, .inl ⟨_, q1, by rw [List.length_map]⟩⟩
  | str z =>
    have q : (if z.length ≤ sizeLine then some ((z.length : Nat) : Int) else none) = some n := q
    split at q
    · rename_i hz
      cases q
      cases l with
      | rep r => cases r; exact .inl ⟨_, rfl, hz, rfl⟩
    · cases q
  | dct ks ds =>
    cases q
    cases l with
    | rep r =>
      cases r with
      | dct q1 k s => exact .inr ⟨_, _, rfl, by rw [← k, List.length_map], rd_same e q1⟩
  | _ => cases q
end

section
variable {X : Cx} {C : Nat → Addr}
theorem call_lenDR : CallR X (.builtin "len") (fun xs H Q => ∃ a kvs, xs = [V.ref a] ∧ Rd H a (.dK kvs) ∧ Q (.int ((kvs.length : Nat) : Int)) H) := by
  intro pins s σ H xs us Q I r hh
  obtain ⟨a, kvs, rfl, hd, q⟩ := hh
  obtain ⟨u, rfl, ru⟩ := vals1 r
  cases ru
  exact d_len I hd fun t s' I' => ⟨.int ((kvs.length : Nat) : Int), H, I', ⟨t, rfl⟩, q⟩
theorem repr_ok (hg : X.A.guards = some []) (hu : X.A.units + 64 < cLine) : CallR X (.builtin "repr") (fun xs H Q => ∃ u d, xs = [u] ∧ Dp X.K H u d ∧ d.showable = true ∧ d.hasDict = false ∧ d.shown.length ≤ sizeLine ∧ d.depth ≤ 40 ∧ Q (.str d.shown) H) := by
  intro pins s σ H xs us Q I r hh
  obtain ⟨u, d, rfl, dp, h1, h2, h3, h4, q⟩ := hh
  obtain ⟨v, rfl, ru⟩ := vals1 r
  have tup : ∀ {b : Addr} {as : List Addr}, v = .ref b → Reads s.heap v d as → wpAny (model X.prog X.w) X.A (call (.builtin "repr") [v]) (EP X pins σ Q) X.xe s := fun {b as} e rd => by
    subst e
    exact repr_of_reads' rd h1 (fun z => by rw [h2] at z; cases z) hg (by omega) (fun _ _ e => e) (fun h' u tk k => ⟨.str d.shown, H, I.kept k, ⟨u, rfl⟩, q⟩) h3
  obtain ⟨as, rd⟩ := Dp.reads I d _ _ dp ru
  cases dp with
  | non => cases ru; exact PySem.P.repr_of_none ⟨.str _, H, I.tok _, ⟨_, rfl⟩, q⟩
  | bl b => cases ru; exact PySem.P.repr_of_bool ⟨.str _, H, I.tok _, ⟨_, rfl⟩, (by cases b <;> exact q)⟩
  | int i => obtain ⟨t, rfl⟩ := ru; exact PySem.P.repr_of_int (of_decide_eq_true h1) ⟨.str _, H, I.tok _, ⟨_, rfl⟩, q⟩
  | str x => obtain ⟨t, rfl⟩ := ru; exact PySem.P.repr_of_str ⟨.str _, H, I.tok _, ⟨_, rfl⟩, q⟩ h3
  | lst _ _ => cases ru; exact tup rfl rd
  | tup _ _ => cases ru; exact tup rfl rd
theorem f1_ok (hc : X.calm = true) (hg : X.A.guards = some []) (hu : X.A.units + 64 < cLine) (f : F1) : CallR X f.val (rF X.K C f) := by
  intro pins s σ H xs us Q I ra hh
  obtain ⟨h, u, x, t, rfl, hs, l, e, md⟩ := hh
  unfold f1D at e
  split at e
  · -- len
    obtain ⟨n, z, rfl⟩ := Option.map_eq_some_iff.mp e
    rcases lenD_ok hs l z with ⟨m, rfl, lv⟩ | ⟨a, kvs, rfl, rfl, hd⟩
    · exact call_len pins s σ H _ us Q I ra ⟨_, _, rfl, lv, md.same hs (.int _)⟩
    · exact call_lenDR pins s σ H _ us Q I ra ⟨_, _, rfl, hd, md.same hs (.int _)⟩
  · cases e
    cases l with
    | rep r => cases r; exact call_int1 pins s σ H _ us Q I ra (.inl ⟨_, rfl, md.same hs (.int _)⟩)
  · cases e
    cases l with
    | rep r => cases r; exact call_int1 pins s σ H _ us Q I ra (.inr ⟨_, rfl, md.same hs (.int _)⟩)
  · split at e
    · rename_i hz
      cases e
      cases l with
      | rep r => cases r; exact call_str_int pins s σ H _ us Q I ra ⟨_, rfl, hz, md.same hs (.str _)⟩
    · cases e
  · split at e
    · rename_i d hd
      split at e
      · rename_i hz
        cases e
        simp only [Bool.and_eq_true, decide_eq_true_eq, Bool.not_eq_true'] at hz
        have dp : Dp X.K H u d := by
          cases l with
          | rep r => exact r.dp hs hd
          | top q s =>
            unfold D.py at hd
            obtain ⟨ps, z, rfl⟩ := Option.map_eq_some_iff.mp hd
            exact .lst (SqL.of q) (Reps.dp hs s z)
        exact repr_ok hg hu pins s σ H _ us Q I ra ⟨u, d, rfl, dp, hz.1.1.1, hz.1.1.2, hz.1.2, hz.2, md.same hs (.str _)⟩
      · cases e
    · cases e
  · -- tuple of a list
    cases e
    obtain ⟨a, vs, rfl, q1, s1⟩ := l.lst hs
    exact call_tuple_of pins s σ H _ us Q I ra ⟨_, _, rfl, .inl ⟨SqL.of q1, fun p n => Made.tup hs md s1 n⟩⟩
  · cases e
    obtain ⟨a, vs, rfl, q1, s1⟩ := l.tup hs
    cases l with
    | rep r => exact call_tuple_of pins s σ H _ us Q I ra ⟨_, _, rfl, .inr ⟨q1, md.same hs r⟩⟩
  · cases e
    obtain ⟨a, vs, rfl, q1, s1⟩ := l.lst hs
    exact call_list_of pins s σ H _ us Q I ra ⟨_, _, rfl, .inl (SqL.of q1), fun p n => Made.lstD hs md s1 n⟩
  · cases e
    obtain ⟨a, vs, rfl, q1, s1⟩ := l.tup hs
    exact call_list_of pins s σ H _ us Q I ra ⟨_, _, rfl, .inr q1, fun p n => Made.lstD hs md s1 n⟩
  · cases e
    obtain ⟨a, rfl, q1⟩ := l.scr hs
    exact call_list_of pins s σ H _ us Q I ra ⟨_, _, rfl, .inl q1, fun p n => Made.lstD hs md (reps_ints _) n⟩
  · obtain ⟨ns, z, rfl⟩ := Option.map_eq_some_iff.mp e
    obtain ⟨a, vs, rfl, q1, s1⟩ := l.lst hs
    rw [intsOf_ok s1 z] at q1
    exact cr_sum hc pins s σ H _ us Q I ra ⟨_, _, rfl, SqL.of q1, md.same hs (.int _)⟩
  · obtain ⟨ns, z, e⟩ := Option.bind_eq_some_iff.mp e
    obtain ⟨a, vs, rfl, q1, s1⟩ := l.lst hs
    rw [intsOf_ok s1 z] at q1
    cases ns with
    | nil => cases e
    | cons m r =>
      cases e
      refine cr_max hc pins s σ H _ us Q I ra ⟨_, _, rfl, SqL.of q1, by simp, fun k hk hle => ?_⟩
      have e2 : k = maxI m r := by
        have a1 := hle _ (maxI_mem r m)
        have a2 : k ≤ maxI m r := by
          rcases List.mem_cons.mp hk with rfl | z'
          · exact (maxI_ge r _).1
          · exact (maxI_ge r m).2 _ z'
        omega
      rw [e2]
      exact md.same hs (.int _)
  · obtain ⟨ns, z, e⟩ := Option.bind_eq_some_iff.mp e
    obtain ⟨a, vs, rfl, q1, s1⟩ := l.lst hs
    rw [intsOf_ok s1 z] at q1
    cases ns with
    | nil => cases e
    | cons m r =>
      cases e
      refine cr_min hc pins s σ H _ us Q I ra ⟨_, _, rfl, SqL.of q1, by simp, fun k hk hle => ?_⟩
      have e2 : k = minI m r := by
        have a1 := hle _ (minI_mem r m)
        have a2 : minI m r ≤ k := by
          rcases List.mem_cons.mp hk with rfl | z'
          · exact (minI_le r _).1
          · exact (minI_le r m).2 _ z'
        omega
      rw [e2]
      exact md.same hs (.int _)
  · cases e
    cases l with
    | rep r => cases r; exact call_abs pins s σ H _ us Q I ra ⟨_, rfl, md.same hs (.int _)⟩
  · obtain ⟨ns, z, rfl⟩ := Option.map_eq_some_iff.mp e
    obtain ⟨a, vs, rfl, q1, s1⟩ := l.lst hs
    rw [blsOf_ok s1 z] at q1
    exact cr_all hc pins s σ H _ us Q I ra ⟨_, _, rfl, SqL.of q1, md.same hs (.bl _)⟩
  · obtain ⟨ns, z, rfl⟩ := Option.map_eq_some_iff.mp e
    obtain ⟨a, vs, rfl, q1, s1⟩ := l.lst hs
    rw [blsOf_ok s1 z] at q1
    exact cr_any hc pins s σ H _ us Q I ra ⟨_, _, rfl, SqL.of q1, md.same hs (.bl _)⟩
  · cases e
theorem f2_ok (hc : X.calm = true) (f : F2) : CallR X f.val (rF2 X.K C f) := by
  intro pins s σ H xs us Q I ra hh
  obtain ⟨h, u, x, v, y, t, rfl, hs, r1, r2, e, md⟩ := hh
  unfold f2D at e
  split at e
  · cases e; cases r1; cases r2
    exact call_max2 hc pins s σ H _ us Q I ra ⟨_, _, rfl, md.same hs (.int _)⟩
  · cases e; cases r1; cases r2
    exact call_min2 hc pins s σ H _ us Q I ra ⟨_, _, rfl, md.same hs (.int _)⟩
  · cases e
/-! ### subscripts -/
theorem ix_dk (hu : X.A.units + 1 < cLine) : IxR X (fun x y H Q => ∃ a v, x = .ref a ∧ DGet H a y (some v) ∧ Q v H) := by
  intro value slice pins s σ H x y v u Q I rx ry hh hs
  obtain ⟨a, z, rfl, g, q⟩ := hh
  cases rx
  exact tail_any (ops := [.ref a, u]) (dict_typeIs I g) PySem.F.slot_dict_getitem.lookup (d_getItem hu I g ry fun w' s3 I3 rw' => ⟨z, H, I3, rw', q⟩) hs
theorem atI_reps {K : PySem.W.Frag} {h : Hp} {vs : List V} {ds : List D} {i : Int} {d : D} (r : Reps K C h vs ds) (e : atI ds i = some d) : ∃ v, atI vs i = some v ∧ Rep K C h v d := by
  unfold atI at e ⊢
  rw [r.length]
  obtain ⟨j, e1, e2⟩ := Option.bind_eq_some_iff.mp e
  obtain ⟨v, v1, v2⟩ := r.get e2
  exact ⟨v, by rw [e1]; exact v1, v2⟩
theorem lookK_reps {K : PySem.W.Frag} {h : Hp} {k : Key} {d : D} : ∀ {kvs : List (Key × V)} {ds : List D}, Reps K C h (kvs.map (·.2)) ds → lookK (kvs.map (·.1)) ds k = some d → ∃ v, valV kvs k = some v ∧ Rep K C h v d
  | [], _, r, e => by cases e
  | (k', v) :: kvs, ds, r, e => by
    cases r with
    | cons a r =>
      rw [List.map_cons] at e
      unfold lookK at e
      split at e
      · rename_i hk
        cases e
        exact ⟨v, valV_pos hk, a⟩
      · rename_i hk
        obtain ⟨w, w1, w2⟩ := lookK_reps r e
        exact ⟨w, by rw [valV_neg hk]; exact w1, w2⟩
theorem key_ok {K : PySem.W.Frag} {h : Hp} {v : V} {d : D} {k : Key} (r : Rep K C h v d) (e : d.key = some k) : v = kV k := by
  cases d with
  | int i => cases r; cases e; rfl
  | str i => cases r; cases e; rfl
  | _ => cases e
def rIxA (K : PySem.W.Frag) (C : Nat → Addr) : R2 := fun u v H Q => ∃ h x y d, Same h H ∧ Rep K C h u x ∧ Rep K C h v y ∧ ixD x y = some d ∧ ∀ w, Rep K C h w d → Q w H
theorem ix_ok (hu : X.A.units + 1 < cLine) : IxR X (rIxA X.K C) := by
  intro value slice pins s σ H a b v u Q I ra rb hh hsub
  obtain ⟨h, x, y, d, hs, r1, r2, e, md⟩ := hh
  unfold ixD at e
  split at e
  · cases r2
    cases r1 with
    | lst q1 s1 =>
      obtain ⟨w, w1, w2⟩ := atI_reps s1 e
      exact ix_list value slice pins s σ H _ _ v u Q I ra rb ⟨_, _, _, w, rfl, rfl, SqL.of (hs _ _ q1), w1, md w w2⟩ hsub
  · cases r2
    cases r1 with
    | tup q1 s1 =>
      obtain ⟨w, w1, w2⟩ := atI_reps s1 e
      exact ix_tup value slice pins s σ H _ _ v u Q I ra rb ⟨_, _, _, w, rfl, rfl, sqT_same hs q1, w1, md w w2⟩ hsub
  · cases r2
    cases r1 with
    | scr q1 =>
      rename_i ns i _
      have e' : atI (ns.map D.int) i = some d := by
        obtain ⟨n, e1, rfl⟩ := Option.map_eq_some_iff.mp e
        unfold atI at e1 ⊢
        obtain ⟨j, e1, e2⟩ := Option.bind_eq_some_iff.mp e1
        rw [List.length_map, e1]
        show (ns.map D.int)[j]? = _
        rw [List.getElem?_map, e2]
        rfl
      obtain ⟨w, w1, w2⟩ := atI_reps (reps_ints (K := X.K) (C := C) (h := h) ns) e'
      exact ix_list value slice pins s σ H _ _ v u Q I ra rb ⟨_, _, _, w, rfl, rfl, hs.seq q1, w1, md w w2⟩ hsub
  · obtain ⟨k, k1, k2⟩ := Option.bind_eq_some_iff.mp e
    cases r1 with
    | dct q1 hk s1 =>
      rw [← hk] at k2
      obtain ⟨w, w1, w2⟩ := lookK_reps s1 k2
      rw [key_ok r2 k1] at rb
      exact ix_dk hu value slice pins s σ H _ _ v u Q I ra rb ⟨_, w, rfl, .inl ⟨_, k, rd_same hs q1, rfl, w1.symm⟩, md w w2⟩ hsub
  · split at e
    · rename_i hz
      obtain ⟨c, c1, rfl⟩ := Option.map_eq_some_iff.mp e
      cases r1; cases r2
      exact ix_str value slice pins s σ H _ _ v u Q I ra rb ⟨_, _, c, rfl, rfl, hz, c1, md _ (.str _)⟩ hsub
    · cases e
  · cases e
/-! ### slices -/
theorem cut_reps {K : PySem.W.Frag} {h : Hp} {vs : List V} {ds : List D} (r : Reps K C h vs ds) (lo hi : Option Int) : Reps K C h (cutV vs lo hi) (cut ds lo hi) := by
  unfold cutV cut
  rw [r.length]
  exact (r.drop _).take _
def rSlA' (K : PySem.W.Frag) (C : Nat → Addr) : V → Option Int → Option Int → Hp → VK → Prop := fun u lo hi H Q => ∃ h x t, Same h H ∧ Lie K C h H u x ∧ slD x lo hi = some t ∧ Made K C h H Q t
theorem sl_ok : SlR X (rSlA' X.K C) := by
  intro pins s σ H a v vl vu lo hi sl Q I ra hsl pl pu hh
  obtain ⟨h, x, t, hs, l, e, md⟩ := hh
  unfold slD at e
  split at e
  · cases e
    obtain ⟨a, vs, rfl, q1, s1⟩ := l.lst hs
    exact sl_list pins s σ H _ v vl vu _ _ sl Q I ra hsl pl pu ⟨_, _, rfl, SqL.of q1, fun p n => Made.lstD hs md (cut_reps s1 _ _) n⟩
  · cases e
    obtain ⟨a, rfl, q1⟩ := l.scr hs
    rename_i ns
    refine sl_list pins s σ H _ v vl vu _ _ sl Q I ra hsl pl pu ⟨_, _, rfl, q1, fun p n => ?_⟩
    have ec : ∀ lo hi, cutV (ns.map V.int) lo hi = (cut ns lo hi).map V.int := fun lo hi => by
      unfold cutV cut
      rw [List.length_map, List.map_take, List.map_drop]
    rw [ec]
    exact Made.lstD hs md (reps_ints _) n
  · cases e
    obtain ⟨a, vs, rfl, q1, s1⟩ := Lie.tup hs l
    refine sl_tupA pins s σ H _ v vl vu _ _ sl Q I ra hsl pl pu ⟨_, _, rfl, q1, fun hw => ?_, fun _ p n => Made.tup hs md (cut_reps s1 _ _) n⟩
    cases l with
    | rep r =>
      rename_i ds
      have ec : cut ds lo hi = ds := by
        unfold cut
        rw [← s1.length, hw.1, hw.2, List.drop_zero, Nat.sub_zero, s1.length, List.take_length]
      rw [ec] at md
      exact md.same hs r
  · split at e
    · rename_i hz
      cases e
      cases l with
      | rep r => cases r; exact sl_str pins s σ H _ v vl vu _ _ sl Q I ra hsl pl pu ⟨_, rfl, hz, md.same hs (.str _)⟩
    · cases e
  · cases e
end
end Mi
/-! MiPath: a part of an owned tree, and the whole with this part changed. -/
namespace Mi
open PySem PySem.Spec PyProof.Rows L2

section
variable {K : PySem.W.Frag} {C : Nat → Addr} {h H : Hp}
/-- v, at F1, is a part of what lies at F: put another tree of v in its place (upd tells what comes of the whole) and the whole stands -/
def Part (K : PySem.W.Frag) (C : Nat → Addr) (h H : Hp) (F : List Addr) (v : V) (t : T) (F1 : List Addr) (whole : T → Hp → Hp → List Addr → Prop) : Prop :=
  Own K C h H v t F1 ∧ (∀ a, a ∈ F1 → a ∈ F) ∧
    ∀ (h' H' : Hp) (t' : T) (F2 : List Addr), Same h h' → (∀ a, a ∈ F → a ∉ F1 → H' a = H a ∧ h' a = none) → Own K C h' H' v t' F2 → (∀ a, a ∈ F2 → a ∈ F1 ∨ a ∉ F) → ∃ F', whole t' h' H' F' ∧ ∀ a, a ∈ F' → a ∈ F ∨ a ∈ F2

theorem OwnR.get : ∀ {vs : List V} {rt : Rt} {F : List Addr} {k : Nat} {t : T}, OwnR K C h H vs rt F → rt[k]? = some (some t) →
    ∃ v F1, vs[k]? = some v ∧ Part K C h H F v t F1 fun t' h' H' F' => OwnR K C h' H' vs (rt.set k (some t')) F'
  | _, _, _, 0, _, .cons (F := F) (G := G) p r dj, e => by
    cases e
    refine ⟨_, F, rfl, p, fun a z => List.mem_append_left _ z, fun h' H' t' F2 s fr o nw => ⟨F2 ++ G, ?_, fun a z => ?_⟩⟩
    · refine .cons o (r.stay s fun a z => fr a (List.mem_append_right _ z) fun z' => dj a z' z) fun a z z' => ?_
      rcases nw a z with y | y
      · exact dj a y z'
      · exact y (List.mem_append_right _ z')
    · rcases List.mem_append.mp z with z | z
      · exact .inr z
      · exact .inl (List.mem_append_right _ z)
  | _, _, _, k + 1, _, .no (G := G) r, e => by
    obtain ⟨v, F1, e1, o1, s1, w1⟩ := OwnR.get (k := k) r (by simpa using e)
    refine ⟨v, F1, by simpa using e1, o1, s1, fun h' H' t' F2 s fr o nw => ?_⟩
    obtain ⟨F', w, z⟩ := w1 h' H' t' F2 s fr o nw
    exact ⟨F', .no w, z⟩
  | _, _, _, k + 1, _, .cons (F := F) (G := G) p r dj, e => by
    obtain ⟨v, F1, e1, o1, s1, w1⟩ := OwnR.get (k := k) r (by simpa using e)
    refine ⟨v, F1, by simpa using e1, o1, fun a z => List.mem_append_right _ (s1 a z), fun h' H' t' F2 s fr o nw => ?_⟩
    have nF : ∀ a, a ∈ F → a ∉ F1 := fun a z z' => dj a z (s1 a z')
    obtain ⟨F', w, z⟩ := w1 h' H' t' F2 s (fun a y n => fr a (List.mem_append_right _ y) n) o fun a y => (nw a y).imp id fun n q => n (List.mem_append_right _ q)
    refine ⟨F ++ F', .cons (p.stay s fun a y => fr a (List.mem_append_left _ y) (nF a y)) w fun a y y' => ?_, fun a y => ?_⟩
    · rcases z a y' with q | q
      · exact dj a y q
      · rcases nw a q with q | q
        · exact nF a y q
        · exact q (List.mem_append_left _ y)
    · rcases List.mem_append.mp y with y | y
      · exact .inl (List.mem_append_left _ y)
      · exact (z a y).imp (fun q => List.mem_append_right _ q) id
/-- a new tree at a root -/
theorem OwnR.put : ∀ {vs : List V} {rt : Rt} {F G : List Addr} {k : Nat} {v : V} {t : T}, OwnR K C h H vs rt F → k < rt.length → Own K C h H v t G → (∀ a, a ∈ G → a ∉ F) →
    ∃ F', OwnR K C h H (vs.set k v) (rt.set k (some t)) F' ∧ ∀ a, a ∈ F' → a ∈ F ∨ a ∈ G
  | _, _, _, G, 0, _, _, .no (G := G0) r, _, o, dj => ⟨G ++ G0, .cons o r fun a z z' => dj a z z', fun a z => (List.mem_append.mp z).symm.imp id id⟩
  | _, _, _, G, 0, _, _, .cons (F := F0) (G := G0) p r _, _, o, dj => ⟨G ++ G0, .cons o r fun a z z' => dj a z (List.mem_append_right _ z'), fun a z => (List.mem_append.mp z).symm.imp (fun q => List.mem_append_right _ q) id⟩
  | _, _, _, G, k + 1, _, _, .no r, l, o, dj => by
    obtain ⟨F', w, z⟩ := OwnR.put (k := k) r (by simpa using l) o dj
    exact ⟨F', .no w, z⟩
  | _, _, _, G, k + 1, _, _, .cons (F := F0) (G := G0) p r d0, l, o, dj => by
    obtain ⟨F', w, z⟩ := OwnR.put (k := k) r (by simpa using l) o fun a y y' => dj a y (List.mem_append_right _ y')
    refine ⟨F0 ++ F', .cons p w fun a y y' => ?_, fun a y => ?_⟩
    · rcases z a y' with q | q
      · exact d0 a y q
      · exact dj a q (List.mem_append_left _ y)
    · rcases List.mem_append.mp y with y | y
      · exact .inl (List.mem_append_left _ y)
      · exact (z a y).imp (fun q => List.mem_append_right _ q) id
/-- a root's tree taken away -/
theorem OwnR.take1 : ∀ {vs : List V} {rt : Rt} {F : List Addr} {k : Nat} {t : T}, OwnR K C h H vs rt F → rt[k]? = some (some t) →
    ∃ v F1 F', vs[k]? = some v ∧ Own K C h H v t F1 ∧ OwnR K C h H vs (rt.set k none) F' ∧ (∀ a, a ∈ F1 → a ∈ F) ∧ (∀ a, a ∈ F' → a ∈ F) ∧ ∀ a, a ∈ F1 → a ∉ F'
  | _, _, _, 0, _, .cons (F := F) (G := G) p r dj, e => by
    cases e
    exact ⟨_, F, G, rfl, p, .no r, fun a z => List.mem_append_left _ z, fun a z => List.mem_append_right _ z, dj⟩
  | _, _, _, k + 1, _, .no r, e => by
    obtain ⟨v, F1, F', e1, o1, w1, a1, a2, a3⟩ := OwnR.take1 (k := k) r (by simpa using e)
    exact ⟨v, F1, F', by simpa using e1, o1, .no w1, a1, a2, a3⟩
  | _, _, _, k + 1, _, .cons (F := F) (G := G) p r dj, e => by
    obtain ⟨v, F1, F', e1, o1, w1, a1, a2, a3⟩ := OwnR.take1 (k := k) r (by simpa using e)
    refine ⟨v, F1, F ++ F', by simpa using e1, o1, .cons p w1 fun a y y' => dj a y (a2 a y'), fun a y => List.mem_append_right _ (a1 a y), fun a y => ?_, fun a y y' => ?_⟩
    · exact (List.mem_append.mp y).elim (fun q => List.mem_append_left _ q) fun q => List.mem_append_right _ (a2 a q)
    · rcases List.mem_append.mp y' with q | q
      · exact dj a q (a1 a y)
      · exact a3 a y q
theorem Owns.get : ∀ {vs : List V} {ts : List T} {F : List Addr} {j : Nat} {t : T}, Owns K C h H vs ts F → ts[j]? = some t →
    ∃ v F1, vs[j]? = some v ∧ Part K C h H F v t F1 fun t' h' H' F' => Owns K C h' H' vs (ts.set j t') F'
  | _, _, _, 0, _, .cons (F := F) (G := G) p r dj, e => by
    cases e
    refine ⟨_, F, rfl, p, fun a z => List.mem_append_left _ z, fun h' H' t' F2 s fr o nw => ⟨F2 ++ G, ?_, fun a z => ?_⟩⟩
    · refine .cons o (r.stay s fun a z => fr a (List.mem_append_right _ z) fun z' => dj a z' z) fun a z z' => ?_
      rcases nw a z with y | y
      · exact dj a y z'
      · exact y (List.mem_append_right _ z')
    · rcases List.mem_append.mp z with z | z
      · exact .inr z
      · exact .inl (List.mem_append_right _ z)
  | _, _, _, k + 1, _, .cons (F := F) (G := G) p r dj, e => by
    obtain ⟨v, F1, e1, o1, s1, w1⟩ := Owns.get (j := k) r (by simpa using e)
    refine ⟨v, F1, by simpa using e1, o1, fun a z => List.mem_append_right _ (s1 a z), fun h' H' t' F2 s fr o nw => ?_⟩
    have nF : ∀ a, a ∈ F → a ∉ F1 := fun a z z' => dj a z (s1 a z')
    obtain ⟨F', w, z⟩ := w1 h' H' t' F2 s (fun a y n => fr a (List.mem_append_right _ y) n) o fun a y => (nw a y).imp id fun n q => n (List.mem_append_right _ q)
    refine ⟨F ++ F', .cons (p.stay s fun a y => fr a (List.mem_append_left _ y) (nF a y)) w fun a y y' => ?_, fun a y => ?_⟩
    · rcases z a y' with q | q
      · exact dj a y q
      · rcases nw a q with q | q
        · exact nF a y q
        · exact q (List.mem_append_left _ y)
    · rcases List.mem_append.mp y with y | y
      · exact .inl (List.mem_append_left _ y)
      · exact (z a y).imp (fun q => List.mem_append_right _ q) id
theorem Part.mono {F F0 : List Addr} {v : V} {t : T} {F1 : List Addr} {w : T → Hp → Hp → List Addr → Prop} (p : Part K C h H F0 v t F1 w) {w' : T → Hp → Hp → List Addr → Prop} (hF : ∀ a, a ∈ F0 → a ∈ F)
    (k : ∀ (h' H' : Hp) (t' : T) (F2 F' : List Addr), Same h h' → (∀ a, a ∈ F → a ∉ F1 → H' a = H a ∧ h' a = none) → w t' h' H' F' → (∀ a, a ∈ F' → a ∈ F0 ∨ a ∈ F2) → (∀ a, a ∈ F2 → a ∈ F1 ∨ a ∉ F) → ∃ F3, w' t' h' H' F3 ∧ ∀ a, a ∈ F3 → a ∈ F ∨ a ∈ F2) :
    Part K C h H F v t F1 w' := by
  obtain ⟨o, s, ww⟩ := p
  refine ⟨o, fun a z => hF a (s a z), fun h' H' t' F2 sm fr o2 nw => ?_⟩
  obtain ⟨F', x, y⟩ := ww h' H' t' F2 sm (fun a z n => fr a (hF a z) n) o2 fun a z => (nw a z).imp id fun n q => n (hF a q)
  exact k h' H' t' F2 F' sm fr x y nw

/-! ### where a path leads -/
theorem atI_set {ts : List T} {i : Int} {t : T} (e : atI ts i = some t) : ∃ j, ixN ts.length i = some j ∧ ts[j]? = some t := by
  unfold atI at e
  obtain ⟨j, e1, e2⟩ := Option.bind_eq_some_iff.mp e
  exact ⟨j, e1, e2⟩
theorem lookK_at : ∀ {ks : List Key} {ts : List T} {k : Key} {t : T}, lookK ks ts k = some t → ∃ j, ks[j]? = some k ∧ ts[j]? = some t ∧ ∀ t', putKs k t' ks ts = (ks, ts.set j t')
  | [], _, _, _, e => by cases e
  | _ :: _, [], _, _, e => by cases e
  | k' :: ks, u :: ts, k, t, e => by
    unfold lookK at e
    split at e
    · rename_i hk
      cases e
      subst hk
      exact ⟨0, rfl, rfl, fun t' => by unfold putKs; rw [if_pos rfl]; rfl⟩
    · rename_i hk
      obtain ⟨j, e1, e2, e3⟩ := lookK_at e
      exact ⟨j + 1, by simpa using e1, by simpa using e2, fun t' => by unfold putKs; rw [if_neg hk, e3]; rfl⟩
theorem valV_at : ∀ {kvs : List (Key × V)} {ts : List T} {k : Key} {t : T} {v : V}, lookK (kvs.map (·.1)) ts k = some t → ∀ j, ts[j]? = some t → (∀ t', putKs k t' (kvs.map (·.1)) ts = (kvs.map (·.1), ts.set j t')) → True := fun _ _ _ _ => trivial
/-- the value beside the tree -/
theorem valV_get {F : List Addr} : ∀ {kvs : List (Key × V)} {ts : List T} {k : Key} {t : T}, Owns K C h H (kvs.map (·.2)) ts F → lookK (kvs.map (·.1)) ts k = some t → ∃ j v, ts[j]? = some t ∧ (kvs.map (·.2))[j]? = some v ∧ valV kvs k = some v ∧
    ∀ t', putKs k t' (kvs.map (·.1)) ts = (kvs.map (·.1), ts.set j t')
  | [], _, _, _, _, e => by cases e
  | (k', v) :: kvs, _, k, t, .cons (ts := ts) p r dj, e => by
    rw [List.map_cons] at e
    unfold lookK at e
    split at e
    · rename_i hk
      cases e
      have hk : k' = k := hk
      subst hk
      exact ⟨0, v, rfl, rfl, valV_pos rfl, fun t' => by rw [List.map_cons]; unfold putKs; rw [if_pos rfl]; rfl⟩
    · rename_i hk
      obtain ⟨j, w, e1, e2, e3, e4⟩ := valV_get r e
      exact ⟨j + 1, w, by simpa using e1, by simpa using e2, by rw [valV_neg hk]; exact e3, fun t' => by rw [List.map_cons]; unfold putKs; rw [if_neg hk, e4]; rfl⟩
theorem look_fs : ∀ {fs : List (Str × V)} {ds : List D} {f : Str} {d : D}, Reps K C h (fs.map (·.2)) ds → lookN (fs.map (·.1)) ds f = some d → ∃ v, fs.lookup f = some v ∧ Rep K C h v d
  | [], _, _, _, _, e => by cases e
  | (n, v) :: fs, _, f, d, .cons p r, e => by
    rw [List.map_cons] at e
    unfold lookN at e
    rw [List.lookup_cons]
    split at e
    · rename_i hk
      cases e
      have hk : n = f := hk
      subst hk
      exact ⟨v, by simp, p⟩
    · rename_i hk
      obtain ⟨w, e1, e2⟩ := look_fs r e
      have hb : (f == n) = false := beq_eq_false_iff_ne.mpr fun z => hk z.symm
      exact ⟨w, by rw [hb]; exact e1, e2⟩
theorem look_ts {F : List Addr} : ∀ {fs : List (Str × V)} {ts : List T} {f : Str} {t : T}, Owns K C h H (fs.map (·.2)) ts F → lookN (fs.map (·.1)) ts f = some t →
    ∃ j v, ts[j]? = some t ∧ (fs.map (·.2))[j]? = some v ∧ fs.lookup f = some v ∧ ∀ t', upP.setN f t' (fs.map (·.1)) ts = ts.set j t'
  | [], _, _, _, _, e => by cases e
  | (n, v) :: fs, _, f, d, .cons p r dj, e => by
    rw [List.map_cons] at e
    unfold lookN at e
    rw [List.lookup_cons]
    split at e
    · rename_i hk
      cases e
      have hk : n = f := hk
      subst hk
      exact ⟨0, v, rfl, rfl, by simp, fun t' => by rw [List.map_cons]; unfold upP.setN; rw [if_pos rfl]; rfl⟩
    · rename_i hk
      obtain ⟨j, w, e1, e2, e3, e4⟩ := look_ts r e
      have hb : (f == n) = false := beq_eq_false_iff_ne.mpr fun z => hk z.symm
      exact ⟨j + 1, w, by simpa using e1, by simpa using e2, by rw [hb]; exact e3, fun t' => by rw [List.map_cons]; unfold upP.setN; rw [if_neg hk, e4]; rfl⟩
end
end Mi
/-! MiFn: what a def promises, where nothing is being shown (guards known); its call; its body. -/
namespace Mi
open PySem PySem.Spec PyProof.Rows L2

abbrev Sp0 := List V → Hp → VK → Prop
/-- like FnOk: no exception leaves, the guards are known to be none -/
structure FOk (P : Program) (w : World) (K : PySem.W.Frag) (mg : Str → Option Value) (base : Heap) (k : Nat) (f : Addr) (fd : FuncData) (ps : List Str) (sp : Sp0) : Prop where
  len : ∀ vs H Q, sp vs H Q → vs.length = ps.length
  run : ∀ (A : Around) (outer : List Env) (s : Shared) (H : Hp) (args : Args) (us : List Value) (vs : List V) (Q : VK), Room k A → A.guards = some [] → Env0 P w K mg base A outer s H → BindsTo s fd args (ps.zip us) →
    Vals vs us → sp vs H Q → codeAny (model P w) A (.call (.ref f) args) (CR CX0 outer P w H s Q E0) s

section
variable {P : Program} {w : World} {K : PySem.W.Frag} {mg : Str → Option Value} {base : Heap} {k : Nat} {f : Addr} {name qual : Str} {params : Arguments} {body : List Stmt} {scope : Scope} {dV kV doc pm cdv ct oc : Value} {an od : Option Addr}
  {osl : Array (Option Value)} {N ps : List Str} {sp : Sp0}
/-- from the body -/
theorem fok_of (hf : K.lookup f = some ⟨oc, od, .func (PySem.W.fnOf name qual params body scope dV kV doc pm an cdv ct), osl⟩) (hc : PySem.W.codeIn K cdv qual = true) (S : FnScope N ps scope)
    (hl : ∀ vs H Q, sp vs H Q → vs.length = ps.length)
    (hb : ∀ (A : Around) (outer : List Env) (s : Shared) (H : Hp) (vs : List V) (Q : VK), Room k (A.deeper (envOfC qual scope s.heap.objs.size f cdv)) → (A.deeper (envOfC qual scope s.heap.objs.size f cdv)).guards = some [] → sp vs H Q →
      ∃ t, PSs (cxOf CX0 P w K mg base N qual scope f cdv A outer s H E0).nox body t ∧ t { nx := fun _ H' => Q .non H', rt := Q } (start N vs) H) :
    FOk P w K mg base (k + 1) f (PySem.W.fnOf name qual params body scope dV kV doc pm an cdv ct) ps sp := by
  constructor
  · exact hl
  · intro A outer s H args us vs Q room grd e0 bnd rel want
    have len := hl vs H Q want
    have inK : K.In s.heap := e0.mod.kin.keeps fun a o q => (e0.bs a o q).1
    have nol : s.heap.NoLimit := e0.mod.nolimit.keeps fun a o q => (e0.bs a o q).1
    have kinds : ∀ y ∈ ps.zip us, scope.names.lookup y.1 = some .local ∨ (scope.names.lookup y.1 = some .cell ∧ ((cellsFrom (s.heap.objs.size + 1) scope.names []).lookup y.1).isSome = true) := by
      intro y hy
      cases S.par y.1 (List.of_mem_zip hy).1 with
      | inl q => exact Or.inl q
      | inr q => exact Or.inr ⟨q, PySem.W.cellsFrom_some _ _ _ (Or.inl q)⟩
    apply codeAny_call_function room.depth (inK _ _ hf) rfl S.co S.gen rfl (PySem.W.codeRec_of inK hc)
    apply bnd
    apply wpAny_newFunctionEnv_cells S.kind kinds
    intro env henv s1 x
    subst henv
    constructor
    · exact nol.keeps x.toInCall.keep
    · apply codeAny_func
      obtain ⟨t, ht, hq⟩ := hb A outer s H vs Q (room.deeper _) grd want
      have I := inv_start (CX := CX0) (P := P) (mg := mg) (base := base) (E := E0) (f := f) (cd := cdv) (qual := qual) S room.hd e0 len rel x
      have fin : ∀ (σ' : L2.St) (H' : Hp) (v : V) (u : Value) (s' : Shared), Inv (cxOf CX0 P w K mg base N qual scope f cdv A outer s H E0) [] σ' H' s' → RelV v u → Q v H' → CE outer P w H s Q u s' := by
        intro σ' H' v u s' J rv q
        exact ⟨v, H', J.os, J.bare, J.base, J.hok, rv, q⟩
      have r := ht.nox.run [] s1 (start N vs) H _ I hq
      apply wpAny_mono r
      · intro fl s' q
        cases fl with
        | ret u => obtain ⟨v, σ', H', J, rv, q⟩ := q; exact fin _ _ _ _ _ J rv q
        | next => obtain ⟨σ', H', J, q⟩ := q; exact fin _ _ V.non Value.none _ J rfl q
        | brk => obtain ⟨_, _, _, q⟩ := q; exact q.elim
        | cont => obtain ⟨_, _, _, q⟩ := q; exact q.elim
      · intro e s' q
        exact q
end

section
variable {X : Cx} {k : Nat} {f : Addr} {fd : FuncData} {ps ks : List Str} {sp : Sp0}
/-- the callee runs -/
theorem run_fok {pins : List (Addr × Obj)} {σ : L2.St} {H : Hp} {s : Shared} {Q : VK} {us ws xs : List Value} {vs : List V} (F : FOk X.prog X.w X.K X.mg X.base k f fd ps sp) (hr : Room k X.A) (hg : X.A.guards = some [])
    (hb : BindsTo s fd ⟨us, ks.zip ws⟩ (ps.zip xs)) (I : Inv X pins σ H s) (r : Vals vs xs) (h : sp vs H Q) : wpAny (model X.prog X.w) X.A (call (.ref f) us (ks.zip ws)) (EP X pins σ Q) X.xe s := by
  apply wpAny_call
  apply codeAny_mono (F.run X.A X.stack s H ⟨us, ks.zip ws⟩ xs vs Q hr hg I.env0 hb r h)
  intro res s' q
  match res, q with
  | .error e, q => exact False.elim q
  | .ok (.ret u), q => exact I.after q
  | .ok .next, q => exact False.elim q
  | .ok .brk, q => exact False.elim q
  | .ok .cont, q => exact False.elim q
end

/-! ### argument lists, keywords -/
def noStar : Expr → Bool
  | .Starred _ _ => false
  | _ => true
theorem star_cons {e : Expr} {es : List Expr} {env : Env} (h : noStar e = true) : starEach (e :: es) env = (false, eval e env) :: starEach es env := by
  cases e <;> first | rfl | cases h
theorem star_plain {pos : Pos} {env : Env} : ∀ {es : List Expr}, es.all noStar = true → (backTo pos (starEach es env)).any (·.1) = false
  | [], _ => rfl
  | e :: es, h => by
    rw [List.all_cons, Bool.and_eq_true] at h
    rw [star_cons h.1]
    exact star_plain h.2
def kwNames (kws : List Keyword) : List Str := kws.filterMap fun k => k.arg
theorem kw_all {pos : Pos} {env : Env} : ∀ {kws : List Keyword}, kws.all (fun k => k.arg.isSome) = true → (backToKw pos (keywordEach kws env)).all (·.1.isSome) = true ∧ (backToKw pos (keywordEach kws env)).any (·.1.isNone) = false ∧
    (backToKw pos (keywordEach kws env)).filterMap (·.1) = kwNames kws
  | [], _ => ⟨rfl, rfl, rfl⟩
  | ⟨none, e, p⟩ :: kws, h => by cases h
  | ⟨some n, e, p⟩ :: kws, h => by
    obtain ⟨h1, h2, h3⟩ := kw_all (pos := pos) (env := env) (kws := kws) (by simpa using h)
    exact ⟨h1, h2, congrArg (n :: ·) h3⟩

section
variable {X : Cx} {k : Nat} {f : Addr} {fd : FuncData} {ps : List Str} {sp : Sp0} {x : Str} {p pos : Pos} {es : List Expr} {kws : List Keyword} {ta tk : TA}
def PatOk (K : PySem.W.Frag) (fd : FuncData) (ps : List Str) (n : Nat) (ks : List Str) (pm : List Nat) : Prop :=
  ∀ (s : Shared) (us ws : List Value), K.In s.heap → us.length = n → ws.length = ks.length → ∃ xs, perm (us ++ ws) pm = some xs ∧ BindsTo s fd ⟨us, ks.zip ws⟩ (ps.zip xs)
theorem perm_vals : ∀ {pm : List Nat} {vs : List V} {us xs : List Value} {ws : List V}, Vals vs us → perm us pm = some xs → perm vs pm = some ws → Vals ws xs
  | [], _, _, _, _, _, e1, e2 => by
    cases e1
    cases e2
    exact .nil
  | i :: pm, vs, us, xs, ws, r, e1, e2 => by
    unfold perm at e1 e2
    split at e1
    · rename_i a b a1 b1
      split at e2
      · rename_i a' b' a2 b2
        cases e1
        cases e2
        obtain ⟨u, u1, u2⟩ := r.get a2
        rw [a1] at u1
        cases u1
        exact .cons u2 (perm_vals r b1 b2)
      · cases e2
    · cases e1
def tCallU (sp : Sp0) (n m : Nat) (pm : List Nat) (ta tk : TA) : TE := fun σ H Q => ta σ H fun vs H1 => tk σ H1 fun zs H2 => vs.length = n ∧ zs.length = m ∧ ∃ ws, perm (vs ++ zs) pm = some ws ∧ sp ws H2 Q
/-- f(e, .., k = e, ..) -/
theorem pe_callU {n : Nat} {pm : List Nat} (F : FOk X.prog X.w X.K X.mg X.base k f fd ps sp) (hr : Room k X.A) (hgd : X.A.guards = some []) (hg : Gl X x) (hm : X.mg x = some (.ref f)) (hk : PySem.W.keepIn X.K (.ref f) = true)
    (pat : PatOk X.K fd ps n (kwNames kws) pm) (hne : es ≠ []) (h1 : es.all noStar = true) (h2 : kws.all (fun k => k.arg.isSome) = true) (ha : PA X es ta) (hw : PK X kws tk) (hdb : (x == ("__debug__" : Str)) = false) :
    PE X (.Call (.Name x p) es kws pos) (tCallU sp n (kwNames kws).length pm ta tk) := by
  constructor
  intro pins s σ H Q I h
  apply wpAny_Call_Name_kw
  apply ld_glob I hg hm _ hdb
  obtain ⟨k1, k2, k3⟩ := kw_all (pos := pos) (env := X.env) h2
  have fin : ∀ (s2 : Shared) (H2 : Hp) (us ws : List Value) (vs zs : List V), Inv X pins σ H2 s2 → Vals vs us → Vals zs ws → (vs.length = n ∧ zs.length = (kwNames kws).length ∧ ∃ ws, perm (vs ++ zs) pm = some ws ∧ sp ws H2 Q) →
      wpAny (model X.prog X.w) X.A (call (.ref f) us ((kwNames kws).zip ws)) (EP X pins σ Q) X.xe s2 := by
    intro s2 H2 us ws vs zs I2 r1 r2 q
    obtain ⟨l1, l2, ys, e, q⟩ := q
    obtain ⟨xs, e2, b⟩ := pat s2 us ws I2.kIn (r1.length.symm.trans l1) (r2.length.symm.trans l2)
    exact run_fok F hr hgd b I2 (perm_vals (r1.append r2) e2 e) q
  have st : (backTo pos (starEach es X.env)).any (·.1) = false := star_plain h1
  cases es with
  | nil => exact absurd rfl hne
  | cons e es =>
    rw [List.all_cons, Bool.and_eq_true] at h1
    have sc := star_cons (es := es) (env := X.env) h1.1
    refine PySem.W.callWith_KW (h₀ := X.base) I.ok.mod.kin hk k1 ?_ (by rw [st, k2]; rfl) sc
    apply thn (ha.run pos pins s σ H _ I h)
    intro us s1 ⟨vs, H1, I1, r1, q1⟩
    apply thn (hw.run pos pins s1 σ H1 _ I1 q1)
    intro ws s2 ⟨zs, H2, I2, r2, q2⟩
    rw [k3]
    exact ⟨I2.kIn, fin s2 H2 us ws vs zs I2 r1 r2 q2⟩
/-- f(k = e, ..), f() -/
theorem pe_callU0 {n : Nat} {pm : List Nat} (F : FOk X.prog X.w X.K X.mg X.base k f fd ps sp) (hr : Room k X.A) (hgd : X.A.guards = some []) (hg : Gl X x) (hm : X.mg x = some (.ref f)) (hk : PySem.W.keepIn X.K (.ref f) = true)
    (pat : PatOk X.K fd ps n (kwNames kws) pm) (h2 : kws.all (fun k => k.arg.isSome) = true) (hw : PK X kws tk) (hdb : (x == ("__debug__" : Str)) = false) :
    PE X (.Call (.Name x p) [] kws pos) (tCallU sp n (kwNames kws).length pm tNil tk) := by
  constructor
  intro pins s σ H Q I h
  apply wpAny_Call_Name_kw
  apply ld_glob I hg hm _ hdb
  obtain ⟨k1, k2, k3⟩ := kw_all (pos := pos) (env := X.env) h2
  refine PySem.W.callWith_KW0 (h₀ := X.base) I.ok.mod.kin hk k1 ?_ (by rw [k2]; rfl)
  apply thn (hw.run pos pins s σ H _ I h)
  intro ws s2 ⟨zs, H2, I2, r2, l1, l2, ys, e, q⟩
  rw [k3]
  obtain ⟨xs, e2, b⟩ := pat s2 [] ws I2.kIn l1 (r2.length.symm.trans l2)
  exact ⟨I2.kIn, run_fok (us := []) F hr hgd b I2 (perm_vals r2 e2 e) q⟩
end
end Mi
/-! MiGd: where the code stands; the check of the core text against the def's own tree; simple expressions, paths, targets. -/
namespace Mi
open PySem PySem.Spec PyProof.Rows L2

/-- what the check and the walk share: the defs' names by number, the module's constants, the attributes' names, how defs are called -/
structure Inf where
  fnm : List Str
  glb : List (Str × D)
  fld : List Str
  pat : List (Nat × Nat × List Str × List Nat)
/-- the scope of a block, the slots' names, which cells the block itself may store to -/
structure Ck where
  sc : Scope
  N : List Str
  fb : Str → Bool

/-- a def's promise -/
def spF (K : PySem.W.Frag) (C : Nat → Addr) (F : Fs) (f : Nat) : Sp0 := fun vs H Q => ∃ h ts Fp r ts', Same h H ∧ Owns K C h H vs ts Fp ∧ F f ts = some (r, ts') ∧
  ∀ v H' h' F' G, Stp Fp h H F' h' H' → Same h' H' → Owns K C h' H' vs ts' F' → Own K C h' H' v r G → (∀ a, a ∈ G → a ∉ F') → (∀ a, a ∈ G → a ∈ Fp ∨ H a = none) → Q v H'

/-- the fixed part -/
structure Fx where
  P : Program
  w : World
  K : PySem.W.Frag
  mg : Str → Option Value
  base : Heap
  I : Inf
  C : Nat → Addr
  k : Nat
  F : Fs
def bltNames : List Str := ["len", "int", "str", "repr", "tuple", "list", "sum", "max", "min", "abs", "all", "any", "range", "enumerate", "zip", "isinstance", "sorted", "dict", "reversed"]
structure Fx.Ok (Y : Fx) : Prop where
  blt : ∀ x, x ∈ bltNames → Y.mg x = none
  glb : ∀ x d, Y.I.glb.lookup x = some d → ∃ v u, Y.mg x = some u ∧ RelV v u ∧ ∀ h, Rep Y.K Y.C h v d
  fld : ∀ c f, f ∈ Y.I.fld → Cls Y.K (Y.C c) ∧ NoAttr Y.K (Y.C c) f
  fns : ∀ (f : Nat) (x : Str), Y.I.fnm[f]? = some x → ∃ a fd ps, Y.mg x = some (.ref a) ∧ PySem.W.keepIn Y.K (.ref a) = true ∧ FOk Y.P Y.w Y.K Y.mg Y.base Y.k a fd ps (spF Y.K Y.C Y.F f) ∧
    ∀ n ks pm, (f, n, ks, pm) ∈ Y.I.pat → PatOk Y.K fd ps n ks pm
structure Gd (Y : Fx) (c : Ck) (X : Cx) : Prop where
  P : X.prog = Y.P
  w : X.w = Y.w
  K : X.K = Y.K
  mg : X.mg = Y.mg
  base : X.base = Y.base
  sc : X.env.scope = c.sc
  N : X.N = c.N
  nd : c.N.Nodup
  calm : X.calm = true
  xe : X.xe = fun _ _ => False
  grd : X.A.guards = some []
  room : Room Y.k X.A
  fn : ∀ x, c.fb x = true → X.fn x = true

/-! ### the check -/
def vis (c : Ck) (x : Str) : Bool := match c.sc.names.lookup x with | some .local => true | some .cell => true | some .free => true | _ => false
def glo (c : Ck) (x : Str) : Bool := match c.sc.names.lookup x with | some .globalImplicit => true | _ => false
def plainN (x : Str) : Bool := !(x == ("__debug__" : Str)) && !(x == ("__classdict__" : Str)) && decide (x ≠ ("__name__" : Str))
def noSlice : Expr → Bool
  | .Slice .. => false
  | _ => true
mutual
def ok0 (I : Inf) (c : Ck) : X0 → Expr → Bool
  | .int i, e => match e with | .Constant (.int j) _ _ => decide (i = j) | _ => false
  | .str s, e => match e with | .Constant (.str t) _ _ => decide (s = t) | _ => false
  | .rd p, e => okP I c p e
  | .add a b, e => match e with | .BinOp x .Add y _ => ok0 I c a x && ok0 I c b y | _ => false
  | .sub a b, e => match e with | .BinOp x .Sub y _ => ok0 I c a x && ok0 I c b y | _ => false
  | .neg a, e => match e with | .UnaryOp .USub x _ => ok0 I c a x | _ => false
  | .len p, e => match e with | .Call (.Name f _) [a] [] _ => decide (f = ("len" : Str)) && glo c "len" && noStar a && okP I c p a | _ => false
def okP (I : Inf) (c : Ck) : P → Expr → Bool
  | .var i, e => match e with | .Name x _ => decide (c.N[i]? = some x) && vis c x && plainN x | _ => false
  | .ix p x, e => match e with | .Subscript a b _ => noSlice b && okP I c p a && ok0 I c x b | _ => false
  | .at p f, e => match e with
    | .Attribute a g _ => decide (f = g) && I.fld.contains f && okP I c p a && (match a with | .Call .. => false | _ => true)
    | _ => false
end
mutual
def okT (c : Ck) : Tg → Expr → Bool
  | .var i, e => match e with
    | .Name x _ => decide (c.N[i]? = some x) && (match c.sc.names.lookup x with | some .local => true | some .cell => c.fb x | _ => false)
    | _ => false
  | .tup ts, e => match e with | .Tuple es _ _ => okTs c ts es | _ => false
def okTs (c : Ck) : List Tg → List Expr → Bool
  | [], [] => true
  | t :: ts, e :: es => noStar e && okT c t e && okTs c ts es
  | _, _ => false
end

section
variable {Y : Fx} {c : Ck} {X : Cx}
theorem Gd.vis (g : Gd Y c X) {x : Str} (h : Mi.vis c x = true) : Vis X.env.scope x := by
  rw [g.sc]
  unfold Mi.vis at h
  unfold Vis
  split at h
  · rename_i e; exact .inl e
  · rename_i e; exact .inr (.inl e)
  · rename_i e; exact .inr (.inr e)
  · cases h
theorem Gd.glo (g : Gd Y c X) {x : Str} (h : Mi.glo c x = true) : Gl X x := by
  show X.env.scope.names.lookup x = some .globalImplicit
  rw [g.sc]
  unfold Mi.glo at h
  split at h
  · rename_i e; exact e
  · cases h
theorem plain_ix {b : Expr} (h : noSlice b = true) : PlainIx b := by
  intro o i
  cases b <;> first | rfl | cases h
theorem Gd.units (g : Gd Y c X) : X.A.units + 64 < cLine := g.room.units
theorem Gd.blt (g : Gd Y c X) (y : Y.Ok) {x : Str} (h : x ∈ bltNames) : X.mg x = none := by rw [g.mg]; exact y.blt x h
theorem Gd.var (g : Gd Y c X) {i : Nat} {x : Str} {pos : Pos} (h1 : c.N[i]? = some x) (h2 : Mi.vis c x = true) (h3 : plainN x = true) : PE X (.Name x pos) (tVar i) := by
  unfold plainN at h3
  simp only [Bool.and_eq_true, Bool.not_eq_true', decide_eq_true_eq] at h3
  exact pe_var (by rw [g.N]; exact h1) (g.vis h2) h3.1.1 h3.1.2
/-- a built-in by its name -/
theorem Gd.call (g : Gd Y c X) {x : Str} {u : Value} {r : List V → Hp → VK → Prop} {p pos : Pos} {e : Expr} {es : List Expr} {t : TA} (hc : CallR X u r) (hg : Mi.glo c x = true) (hm : X.mg x = none) (hv : bootBuiltins x = some u)
    (hu : (∃ id, u = .builtin id) ∨ ∃ T, u = .type T) (hn : plainN x = true) (hs : (e :: es).all noStar = true) (ha : PA X (e :: es) t) : PE X (.Call (.Name x p) (e :: es) [] pos) (tCB r t) := by
  unfold plainN at hn
  simp only [Bool.and_eq_true, Bool.not_eq_true', decide_eq_true_eq] at hn
  rw [List.all_cons, Bool.and_eq_true] at hs
  rcases hu with ⟨id, rfl⟩ | ⟨T, rfl⟩
  · exact pe_callB hc (g.glo hg) hm hv ha hn.2 hn.1.1 (star_cons hs.1) (star_plain hs.2)
  · exact pe_callTy hc (g.glo hg) hm hv ha hn.2 hn.1.1 (star_cons hs.1) (star_plain hs.2)
theorem pa_one {e : Expr} {te : TE} (h : noStar e = true) (ha : PE X e te) : PA X [e] (tCons te tNil) := pa_cons ha pa_nil (star_cons h)

/-! ### paths -/
/-- what the reading of a path hands on: the value, and the tree as a part of the roots -/
def AtP (Y : Fx) (σ : L2.St) (H h : Hp) (sl : Sl) (rt : Rt) (vs : List V) (F : List Addr) (p : P) (v : V) (u : T) : Prop :=
  ∃ F1, (Part Y.K Y.C h H F v u F1 fun t' h' H' F' => ∀ rt', upP sl rt p t' = some rt' → OwnR Y.K Y.C h' H' vs rt' F') ∧
    ∀ a, a ∈ F1 → ∀ k tk vk Fk, sl[p.root]? = some (some (.r k)) → rt[k]? = some (some tk) → vs[k]? = some vk → Own Y.K Y.C h H vk tk Fk → a ∈ Fk
def TPs (Y : Fx) (sl : Sl) (rt : Rt) (p : P) (t : TE) : Prop := ∀ σ H h vs F, Rel Y.K Y.C σ H h sl rt vs F → ∀ u, pt sl rt p = some u → ∀ Q : VK, (∀ v, AtP Y σ H h sl rt vs F p v u → Q v H) → t σ H Q
def TXs (Y : Fx) (sl : Sl) (rt : Rt) (x : X0) (t : TE) : Prop := ∀ σ H h vs F, Rel Y.K Y.C σ H h sl rt vs F → ∀ d, x0 sl rt x = some d → ∀ Q : VK, (∀ v, Rep Y.K Y.C h v d → Q v H) → t σ H Q

def rIxP (K : PySem.W.Frag) : R2 := fun u v H Q => rIx K u v H Q ∨ ∃ a z, u = .ref a ∧ DGet H a v (some z) ∧ Q z H
theorem ixP_ok (hu : X.A.units + 1 < cLine) : IxR X (rIxP X.K) := IxR.or ix_seq (ix_dk hu)
def rLenP (K : PySem.W.Frag) : List V → Hp → VK → Prop := fun xs H Q => (∃ x n, xs = [x] ∧ LenV K x H n ∧ Q (.int n) H) ∨ ∃ a kvs, xs = [V.ref a] ∧ Rd H a (.dK kvs) ∧ Q (.int ((kvs.length : Nat) : Int)) H
theorem lenP_ok : CallR X (.builtin "len") (rLenP X.K) := CallR.or call_len call_lenDR
theorem ds_length : ∀ ts : List T, (T.ds ts).length = ts.length
  | [] => rfl
  | _ :: r => congrArg (· + 1) (ds_length r)
theorem lenT_ok {K : PySem.W.Frag} {C : Nat → Addr} {h H : Hp} {v : V} {t : T} {F : List Addr} {n : Int} (e : Same h H) (o : Own K C h H v t F) (q : lenD t.d = some n) :
    (∃ m : Nat, n = m ∧ LenV K v H m) ∨ ∃ a kvs, v = .ref a ∧ n = ((kvs.length : Nat) : Int) ∧ Rd H a (.dK kvs) := by
  cases o with
  | cl r => exact lenD_ok e (.rep r) q
  | ls q1 n1 r1 _ =>
    cases q
    exact .inl ⟨_, rfl, .inl ⟨_, SqL.of q1, by rw [ds_length]; exact r1.length.symm⟩⟩
  | dc q1 n1 hk r1 _ =>
    cases q
    exact .inr ⟨_, _, rfl, by rw [← hk, List.length_map], .inl q1⟩
  | ob _ _ _ _ _ => cases q

theorem rep_d {K : PySem.W.Frag} {C : Nat → Addr} {h H : Hp} {v : V} {d : D} {F : List Addr} (o : Own K C h H v (.cl d) F) : Rep K C h v d := by cases o; assumption
theorem whole_cl {K : PySem.W.Frag} {C : Nat → Addr} {h H : Hp} {v w : V} {d d' : D} {F F1 : List Addr} {wh : T → Hp → Hp → List Addr → Prop} (p : Part K C h H F v (.cl d) F1 wh) : F1 = [] := by
  obtain ⟨o, _⟩ := p
  cases o
  rfl

mutual
theorem sndP (y : Y.Ok) : ∀ (p : P) (e : Expr), okP Y.I c p e = true → ∃ t, (∀ X, Gd Y c X → PE X e t) ∧ ∀ sl rt, TPs Y sl rt p t
  | .var i, e, ok => by
    unfold okP at ok
    split at ok
    · rename_i x pos
      simp only [Bool.and_eq_true, decide_eq_true_eq] at ok
      refine ⟨tVar i, fun X g => g.var ok.1.1 ok.1.2 ok.2, fun sl rt σ H h vs F r u hu Q q => ?_⟩
      unfold pt at hu
      split at hu
      · rename_i d hs
        cases hu
        obtain ⟨v, e1, e2⟩ := r.slt i _ hs
        refine ⟨v, e1, q v ⟨[], ⟨.cl e2, fun a z => absurd z (by simp), fun h' H' t' F2 s fr o nw => ?_⟩, fun a z => absurd z (by simp)⟩⟩
        obtain ⟨F', w⟩ : ∃ F', OwnR Y.K Y.C h' H' vs rt F' ∧ ∀ a, a ∈ F' → a ∈ F ∨ a ∈ F2 := ⟨F, r.own.stay s fun a z => fr a z (by simp), fun a z => .inl z⟩
        refine ⟨F', fun rt' hr => ?_, w.2⟩
        unfold upP at hr
        rw [hs] at hr
        cases hr
      · rename_i k hs
        split at hu
        · rename_i t ht
          cases hu
          obtain ⟨v, e1, e2⟩ := r.slt i _ hs
          obtain ⟨w, F1, e3, pr⟩ := r.own.get ht
          have e2 : vs[k]? = some v := e2
          rw [e2] at e3
          cases e3
          refine ⟨v, e1, q v ⟨F1, pr.mono (fun a z => z) fun h' H' t' F2 F' s fr w sub nw => ⟨F', fun rt' hr => ?_, sub⟩, fun a z k' tk vk Fk s1 s2 s3 s4 => by
            have s1 : sl[i]? = some (some (.r k')) := s1
            rw [hs] at s1
            cases s1
            rw [ht] at s2
            cases s2
            rw [e2] at s3
            cases s3
            rw [s4.uniq pr.1]
            exact z⟩⟩
          unfold upP at hr
          rw [hs] at hr
          simp only at hr
          split at hr
          · cases hr; exact w
          · cases hr
        · cases hu
      · cases hu
    · cases ok
  | .ix p x, e, ok => by
    unfold okP at ok
    split at ok
    · rename_i a b pos
      simp only [Bool.and_eq_true] at ok
      obtain ⟨ta, pa, ra⟩ := sndP y p a ok.1.2
      obtain ⟨tb, pb, rb⟩ := sndX y x b ok.2
      refine ⟨tOp (rIxP Y.K) ta tb, fun X g => pe_ix (by have z := ixP_ok (X := X) (by have := g.units; omega); rw [g.K] at z; exact z) (pa X g) (pb X g) (plain_ix ok.1.1), fun sl rt σ H h vs F r u hu Q q => ?_⟩
      unfold pt at hu
      split at hu
      · rename_i u0 d hp hx
        refine ra sl rt σ H h vs F r u0 hp _ fun v0 at0 => ?_
        refine rb sl rt σ H h vs F r d hx _ fun w rw' => ?_
        obtain ⟨F0, pr0, in0⟩ := at0
        cases u0 with
        | cl d0 =>
          unfold ixT at hu
          obtain ⟨d1, hd, rfl⟩ := Option.map_eq_some_iff.mp hu
          have r0 := rep_d pr0.1
          have fin : ∀ z, Rep Y.K Y.C h z d1 → Q z H := fun z rz => q z ⟨[], ⟨.cl rz, fun a z => absurd z (by simp), fun h' H' t' F2 s fr o nw => ⟨F, (fun rt' hr => by
            unfold upP at hr
            rw [hp, hx] at hr
            cases hr), fun a z => .inl z⟩⟩, fun a z => absurd z (by simp)⟩
          unfold ixD at hd
          split at hd
          · cases rw'
            cases r0 with
            | lst q1 s1 =>
              obtain ⟨z, z1, z2⟩ := atI_reps s1 hd
              exact .inl (.inl ⟨_, _, _, z, rfl, rfl, SqL.of (r.sub _ _ q1), z1, fin z z2⟩)
          · cases rw'
            cases r0 with
            | tup q1 s1 =>
              obtain ⟨z, z1, z2⟩ := atI_reps s1 hd
              exact .inl (.inr (.inl ⟨_, _, _, z, rfl, rfl, sqT_same r.sub q1, z1, fin z z2⟩))
          · cases rw'
            cases r0 with
            | scr q1 =>
              rename_i ns i _
              obtain ⟨n, e1, rfl⟩ := Option.map_eq_some_iff.mp hd
              have e2 : atI (ns.map V.int) i = some (.int n) := by
                unfold atI at e1 ⊢
                obtain ⟨j, e1, e2⟩ := Option.bind_eq_some_iff.mp e1
                rw [List.length_map, e1]
                show (ns.map V.int)[j]? = _
                rw [List.getElem?_map, e2]
                rfl
              exact .inl (.inl ⟨_, _, _, _, rfl, rfl, r.sub.seq q1, e2, fin _ (.int n)⟩)
          · obtain ⟨kk, k1, k2⟩ := Option.bind_eq_some_iff.mp hd
            cases r0 with
            | dct q1 hk s1 =>
              rw [← hk] at k2
              obtain ⟨z, z1, z2⟩ := lookK_reps s1 k2
              exact .inr ⟨_, z, rfl, by rw [key_ok rw' k1]; exact .inl ⟨_, kk, rd_same r.sub q1, rfl, z1.symm⟩, fin z z2⟩
          · split at hd
            · rename_i hz
              obtain ⟨cc, c1, rfl⟩ := Option.map_eq_some_iff.mp hd
              cases r0
              cases rw'
              exact .inl (.inr (.inr ⟨_, _, cc, rfl, rfl, hz, c1, fin _ (.str _)⟩))
            · cases hd
          · cases hd
        | ls ts =>
          obtain ⟨o0, s0, w0⟩ := pr0
          cases o0 with
          | ls hH hn os na =>
            rename_i a xs F0
            cases d with
            | int i =>
              have hu : atI ts i = some u := hu
              cases rw'
              obtain ⟨j, j1, j2⟩ := atI_set hu
              obtain ⟨z, F1, z1, z2, z3, z4⟩ := os.get j2
              have hz : atI xs i = some z := by
                unfold atI
                rw [os.length, j1]
                exact z1
              refine .inl (.inl ⟨a, xs, i, z, rfl, rfl, SqL.of hH, hz, q z ⟨F1, ⟨z2, fun b m => s0 b (List.mem_cons_of_mem _ (z3 b m)), fun h' H' t' F2 s fr o nw => ?_⟩, fun b m => in0 b (List.mem_cons_of_mem _ (z3 b m))⟩⟩)
              have aF : a ∈ F := s0 a List.mem_cons_self
              have a1 : a ∉ F1 := fun m => na (z3 a m)
              obtain ⟨F3, w3, y3⟩ := z4 h' H' t' F2 s (fun b m n => fr b (s0 b (List.mem_cons_of_mem _ m)) n) o fun b m => (nw b m).imp id fun n m' => n (s0 b (List.mem_cons_of_mem _ m'))
              have a3 : a ∉ F3 := fun m => by
                rcases y3 a m with y | y
                · exact na y
                · rcases nw a y with y | y
                  · exact a1 y
                  · exact y aF
              obtain ⟨F', wF, yF⟩ := w0 h' H' (.ls (ts.set j t')) (a :: F3) s (fun b m n => fr b m fun m' => n (List.mem_cons_of_mem _ (z3 b m'))) (.ls ((fr a aF a1).1.trans hH) (fr a aF a1).2 w3 a3) fun b m => by
                rcases List.mem_cons.mp m with rfl | m
                · exact .inl List.mem_cons_self
                · rcases y3 b m with y | y
                  · exact .inl (List.mem_cons_of_mem _ y)
                  · exact (nw b y).imp (fun m' => List.mem_cons_of_mem _ (z3 b m')) id
              refine ⟨F', fun rt' hr => ?_, fun b m => ?_⟩
              · unfold upP at hr
                rw [hp, hx] at hr
                have hr : ((ixN ts.length i).map fun j => T.ls (ts.set j t')).bind (upP sl rt p) = some rt' := hr
                rw [j1] at hr
                exact wF rt' hr
              · rcases yF b m with y | y
                · exact .inl y
                · rcases List.mem_cons.mp y with rfl | y
                  · exact .inl aF
                  · exact (y3 b y).imp (fun m' => s0 b (List.mem_cons_of_mem _ m')) id
            | _ => cases hu
        | dc ks ts =>
          obtain ⟨o0, s0, w0⟩ := pr0
          cases o0 with
          | dc hH hn hk os na =>
            rename_i a kvs F0
            have hu : d.key.bind (lookK ks ts) = some u := hu
            obtain ⟨kk, k1, k2⟩ := Option.bind_eq_some_iff.mp hu
            subst hk
            obtain ⟨j, z0, j2, j3, j4, j5⟩ := valV_get os k2
            obtain ⟨z, F1, z1, z2, z3, z4⟩ := os.get j2
            rw [j3] at z1
            cases z1
            refine .inr ⟨a, z0, rfl, by rw [key_ok rw' k1]; exact .inl ⟨kvs, kk, .inl hH, rfl, j4.symm⟩, q z0 ⟨F1, ⟨z2, fun b m => s0 b (List.mem_cons_of_mem _ (z3 b m)), fun h' H' t' F2 s fr o nw => ?_⟩, fun b m => in0 b (List.mem_cons_of_mem _ (z3 b m))⟩⟩
            have aF : a ∈ F := s0 a List.mem_cons_self
            have a1 : a ∉ F1 := fun m => na (z3 a m)
            obtain ⟨F3, w3, y3⟩ := z4 h' H' t' F2 s (fun b m n => fr b (s0 b (List.mem_cons_of_mem _ m)) n) o fun b m => (nw b m).imp id fun n m' => n (s0 b (List.mem_cons_of_mem _ m'))
            have a3 : a ∉ F3 := fun m => by
              rcases y3 a m with y | y
              · exact na y
              · rcases nw a y with y | y
                · exact a1 y
                · exact y aF
            obtain ⟨F', wF, yF⟩ := w0 h' H' (.dc (kvs.map (·.1)) (ts.set j t')) (a :: F3) s (fun b m n => fr b m fun m' => n (List.mem_cons_of_mem _ (z3 b m'))) (.dc ((fr a aF a1).1.trans hH) (fr a aF a1).2 rfl w3 a3) fun b m => by
              rcases List.mem_cons.mp m with rfl | m
              · exact .inl List.mem_cons_self
              · rcases y3 b m with y | y
                · exact .inl (List.mem_cons_of_mem _ y)
                · exact (nw b y).imp (fun m' => List.mem_cons_of_mem _ (z3 b m')) id
            refine ⟨F', fun rt' hr => ?_, fun b m => ?_⟩
            · unfold upP at hr
              rw [hp, hx] at hr
              have hr : (d.key.bind fun kk => if (lookK (kvs.map (·.1)) ts kk).isSome = true then some (T.dc (putKs kk t' (kvs.map (·.1)) ts).1 (putKs kk t' (kvs.map (·.1)) ts).2) else none).bind (upP sl rt p) = some rt' := hr
              rw [k1] at hr
              have hr : (if (lookK (kvs.map (·.1)) ts kk).isSome = true then some (T.dc (putKs kk t' (kvs.map (·.1)) ts).1 (putKs kk t' (kvs.map (·.1)) ts).2) else none).bind (upP sl rt p) = some rt' := hr
              rw [k2, if_pos (show (some u).isSome = true from rfl), j5] at hr
              exact wF rt' hr
            · rcases yF b m with y | y
              · exact .inl y
              · rcases List.mem_cons.mp y with rfl | y
                · exact .inl aF
                · exact (y3 b y).imp (fun m' => s0 b (List.mem_cons_of_mem _ m')) id
        | ob cc ns ts => cases hu
      · cases hu
    · cases ok
  | .at p f, e, ok => by
    unfold okP at ok
    split at ok
    · rename_i a g pos
      simp only [Bool.and_eq_true, decide_eq_true_eq] at ok
      obtain ⟨⟨⟨rfl, hf⟩, h3⟩, h4⟩ := ok
      obtain ⟨ta, pa, ra⟩ := sndP y p a h3
      have hf : f ∈ Y.I.fld := by simpa using hf
      refine ⟨tFld Y.K ta f, fun X g => by
        have z := pe_fld (f := f) (pos := pos) (pa X g) (by cases a <;> first | rfl | cases h4)
        rw [g.K] at z
        exact z, fun sl rt σ H h vs F r u hu Q q => ?_⟩
      unfold pt at hu
      split at hu
      · rename_i u0 hp
        refine ra sl rt σ H h vs F r u0 hp _ fun v0 at0 => ?_
        obtain ⟨F0, pr0, in0⟩ := at0
        cases u0 with
        | cl d0 =>
          unfold atT at hu
          obtain ⟨d1, hd, rfl⟩ := Option.map_eq_some_iff.mp hu
          have r0 := rep_d pr0.1
          unfold atD at hd
          split at hd
          · cases r0 with
            | ins q1 hk s1 =>
              rw [← hk] at hd
              obtain ⟨z, z1, z2⟩ := look_fs s1 hd
              refine ⟨_, _, _, _, z, rfl, r.sub _ _ q1, (y.fld _ f hf).1, (y.fld _ f hf).2, z1, q z ⟨[], ⟨.cl z2, fun a z => absurd z (by simp), fun h' H' t' F2 s fr o nw => ⟨F, fun rt' hr => ?_, fun a z => .inl z⟩⟩, fun a z => absurd z (by simp)⟩⟩
              unfold upP at hr
              rw [hp] at hr
              cases hr
          · cases hd
        | ob cc ns ts =>
          obtain ⟨o0, s0, w0⟩ := pr0
          cases o0 with
          | ob hH hn hk os na =>
            rename_i a dx fs F0
            have hu : lookN ns ts f = some u := hu
            subst hk
            obtain ⟨j, z0, j2, j3, j4, j5⟩ := look_ts os hu
            obtain ⟨z, F1, z1, z2, z3, z4⟩ := os.get j2
            rw [j3] at z1
            cases z1
            refine ⟨a, _, dx, fs, z0, rfl, hH, (y.fld _ f hf).1, (y.fld _ f hf).2, j4, q z0 ⟨F1, ⟨z2, fun b m => s0 b (List.mem_cons_of_mem _ (z3 b m)), fun h' H' t' F2 s fr o nw => ?_⟩, fun b m => in0 b (List.mem_cons_of_mem _ (z3 b m))⟩⟩
            have aF : a ∈ F := s0 a List.mem_cons_self
            have a1 : a ∉ F1 := fun m => na (z3 a m)
            obtain ⟨F3, w3, y3⟩ := z4 h' H' t' F2 s (fun b m n => fr b (s0 b (List.mem_cons_of_mem _ m)) n) o fun b m => (nw b m).imp id fun n m' => n (s0 b (List.mem_cons_of_mem _ m'))
            have a3 : a ∉ F3 := fun m => by
              rcases y3 a m with y | y
              · exact na y
              · rcases nw a y with y | y
                · exact a1 y
                · exact y aF
            obtain ⟨F', wF, yF⟩ := w0 h' H' (.ob cc (fs.map (·.1)) (ts.set j t')) (a :: F3) s (fun b m n => fr b m fun m' => n (List.mem_cons_of_mem _ (z3 b m'))) (.ob ((fr a aF a1).1.trans hH) (fr a aF a1).2 rfl w3 a3) fun b m => by
              rcases List.mem_cons.mp m with rfl | m
              · exact .inl List.mem_cons_self
              · rcases y3 b m with y | y
                · exact .inl (List.mem_cons_of_mem _ y)
                · exact (nw b y).imp (fun m' => List.mem_cons_of_mem _ (z3 b m')) id
            refine ⟨F', fun rt' hr => ?_, fun b m => ?_⟩
            · unfold upP at hr
              rw [hp] at hr
              have hr : (if (lookN (fs.map (·.1)) ts f).isSome = true then upP sl rt p (.ob cc (fs.map (·.1)) (upP.setN f t' (fs.map (·.1)) ts)) else none) = some rt' := hr
              rw [hu, if_pos (show (some u).isSome = true from rfl), j5] at hr
              exact wF rt' hr
            · rcases yF b m with y | y
              · exact .inl y
              · rcases List.mem_cons.mp y with rfl | y
                · exact .inl aF
                · exact (y3 b y).imp (fun m' => s0 b (List.mem_cons_of_mem _ m')) id
        | ls ts => cases hu
        | dc ks ts => cases hu
      · cases hu
    · cases ok
theorem sndX (y : Y.Ok) : ∀ (x : X0) (e : Expr), ok0 Y.I c x e = true → ∃ t, (∀ X, Gd Y c X → PE X e t) ∧ ∀ sl rt, TXs Y sl rt x t
  | .int i, e, ok => by
    unfold ok0 at ok
    split at ok
    · have ok := of_decide_eq_true ok
      subst ok
      refine ⟨tC (.int i), fun X g => pe_int, fun sl rt σ H h vs F r d hd Q q => ?_⟩
      unfold x0 at hd
      cases hd
      exact q _ (.int i)
    · cases ok
  | .str i, e, ok => by
    unfold ok0 at ok
    split at ok
    · have ok := of_decide_eq_true ok
      subst ok
      refine ⟨tC (.str i), fun X g => pe_str, fun sl rt σ H h vs F r d hd Q q => ?_⟩
      unfold x0 at hd
      cases hd
      exact q _ (.str i)
    · cases ok
  | .rd p, e, ok => by
    unfold ok0 at ok
    obtain ⟨ta, pa, ra⟩ := sndP y p e ok
    refine ⟨ta, pa, fun sl rt σ H h vs F r d hd Q q => ?_⟩
    unfold x0 at hd
    split at hd
    · rename_i d0 hp
      split at hd
      · cases hd
        refine ra sl rt σ H h vs F r _ hp _ fun v at0 => ?_
        obtain ⟨F0, pr0, in0⟩ := at0
        exact q v (rep_d pr0.1)
      · cases hd
    · cases hd
  | .add a b, e, ok => by
    unfold ok0 at ok
    split at ok
    · simp only [Bool.and_eq_true] at ok
      obtain ⟨ta, pa, ra⟩ := sndX y a _ ok.1
      obtain ⟨tb, pb, rb⟩ := sndX y b _ ok.2
      refine ⟨tOp (rI0 fun i j => .int (i + j)) ta tb, fun X g => pe_op op_add (pa X g) (pb X g), fun sl rt σ H h vs F r d hd Q q => ?_⟩
      unfold x0 at hd
      split at hd
      · rename_i i j h1 h2
        cases hd
        refine ra sl rt σ H h vs F r _ h1 _ fun v rv => rb sl rt σ H h vs F r _ h2 _ fun w rw' => ?_
        cases rv; cases rw'
        exact ⟨i, j, rfl, rfl, q _ (.int _)⟩
      · cases hd
    · cases ok
  | .sub a b, e, ok => by
    unfold ok0 at ok
    split at ok
    · simp only [Bool.and_eq_true] at ok
      obtain ⟨ta, pa, ra⟩ := sndX y a _ ok.1
      obtain ⟨tb, pb, rb⟩ := sndX y b _ ok.2
      refine ⟨tOp (rI0 fun i j => .int (i - j)) ta tb, fun X g => pe_op op_sub (pa X g) (pb X g), fun sl rt σ H h vs F r d hd Q q => ?_⟩
      unfold x0 at hd
      split at hd
      · rename_i i j h1 h2
        cases hd
        refine ra sl rt σ H h vs F r _ h1 _ fun v rv => rb sl rt σ H h vs F r _ h2 _ fun w rw' => ?_
        cases rv; cases rw'
        exact ⟨i, j, rfl, rfl, q _ (.int _)⟩
      · cases hd
    · cases ok
  | .neg a, e, ok => by
    unfold ok0 at ok
    split at ok
    · obtain ⟨ta, pa, ra⟩ := sndX y a _ ok
      refine ⟨tUn (rU fun i => .int (-i)) ta, fun X g => pe_un un_neg (pa X g), fun sl rt σ H h vs F r d hd Q q => ?_⟩
      unfold x0 at hd
      split at hd
      · rename_i i h1
        cases hd
        refine ra sl rt σ H h vs F r _ h1 _ fun v rv => ?_
        cases rv
        exact ⟨i, rfl, q _ (.int _)⟩
      · cases hd
    · cases ok
  | .len p, e, ok => by
    unfold ok0 at ok
    split at ok
    · rename_i f pf a pos
      simp only [Bool.and_eq_true, decide_eq_true_eq] at ok
      obtain ⟨⟨⟨rfl, h1⟩, h2⟩, h3⟩ := ok
      obtain ⟨ta, pa, ra⟩ := sndP y p a h3
      refine ⟨tCB (rLenP Y.K) (tCons ta tNil), fun X g => by
        have z := g.call (x := "len") (p := pf) (pos := pos) (lenP_ok (X := X)) h1 (g.blt y (by decide +kernel)) (by decide +kernel) (.inl ⟨_, rfl⟩) (by decide +kernel) (by simpa using h2) (pa_one h2 (pa X g))
        rw [g.K] at z
        exact z, fun sl rt σ H h vs F r d hd Q q => ?_⟩
      unfold x0 at hd
      split at hd
      · rename_i u hp
        obtain ⟨n, hn, rfl⟩ := Option.map_eq_some_iff.mp hd
        refine ra sl rt σ H h vs F r u hp _ fun v at0 => ?_
        obtain ⟨F0, pr0, in0⟩ := at0
        rcases lenT_ok r.sub pr0.1 hn with ⟨m, rfl, lv⟩ | ⟨a, kvs, rfl, rfl, hd'⟩
        · exact .inl ⟨v, m, rfl, lv, q _ (.int _)⟩
        · exact .inr ⟨a, kvs, rfl, hd', q _ (.int _)⟩
      · cases hd
    · cases ok
end
end
end Mi
/-! MiIt: what is walked, item by item, as data. -/
namespace Mi
open PySem PySem.Spec PyProof.Rows L2

/-- the walk J yields the data ds, wherever S holds -/
structure Wk (K : PySem.W.Frag) (C : Nat → Addr) (J : L2.It) (ds : List D) (S : Hp → Hp → Prop) : Prop where
  go : ∀ i h H, S h H → Same h H → i < ds.length → J.go i H
  yl : ∀ i h H x H', S h H → Same h H → J.yld i H x H' → i < ds.length → ∃ d h', ds[i]? = some d ∧ Grew h H h' H' ∧ Rep K C h' x d
  stop : ∀ h H, S h H → Same h H → J.stop ds.length H
  up : ∀ h H h' H', S h H → Same h h' → Same h' H' → Same H H' → S h' H'
def Clo (S : Hp → Hp → Prop) : Prop := ∀ h H h' H', S h H → Same h h' → Same h' H' → S h' H'

theorem PI.or {X : Cx} {tg e : Expr} {a b : TI} (ha : PI X tg e a) (hb : PI X tg e b) : PI X tg e (fun σ H R => a σ H R ∨ b σ H R) :=
  ⟨fun pins s σ H R I h => h.elim (ha.run pins s σ H R I) (hb.run pins s σ H R I)⟩

section
variable {K : PySem.W.Frag} {C : Nat → Addr}
/-- a list's own object in h or in H alone -/
def SL (K : PySem.W.Frag) (C : Nat → Addr) (a : Addr) (ds : List D) (h H : Hp) : Prop := ∃ vs, SqL K H a vs ∧ Reps K C h vs ds
def SLc (K : PySem.W.Frag) (C : Nat → Addr) (a : Addr) (ds : List D) (h H : Hp) : Prop := ∃ vs, SqL K h a vs ∧ Reps K C h vs ds
def STc (K : PySem.W.Frag) (C : Nat → Addr) (a : Addr) (ds : List D) (h H : Hp) : Prop := ∃ vs, SqT K h a vs ∧ Reps K C h vs ds
theorem SLc.to {a : Addr} {ds : List D} {h H : Hp} (e : Same h H) (s : SLc K C a ds h H) : SL K C a ds h H := let ⟨vs, q, r⟩ := s; ⟨vs, e.seq q, r⟩
theorem clo_SLc {a : Addr} {ds : List D} : Clo (SLc K C a ds) := fun _ _ _ _ ⟨vs, q, r⟩ e _ => ⟨vs, e.seq q, r.mono e⟩
theorem clo_STc {a : Addr} {ds : List D} : Clo (STc K C a ds) := fun _ _ _ _ ⟨vs, q, r⟩ e _ => ⟨vs, sqT_same e q, r.mono e⟩
theorem reps_at {h : Hp} {vs : List V} {ds : List D} {i : Nat} {x : V} (r : Reps K C h vs ds) (e : vs[i]? = some x) : ∃ d, ds[i]? = some d ∧ Rep K C h x d := by
  have hi : i < ds.length := by
    have := (List.getElem?_eq_some_iff.mp e).1
    rw [r.length] at this
    exact this
  obtain ⟨v, v1, v2⟩ := r.get (List.getElem?_eq_getElem hi)
  rw [e] at v1
  cases v1
  exact ⟨_, List.getElem?_eq_getElem hi, v2⟩
theorem reps_in {h : Hp} {vs : List V} {ds : List D} {i : Nat} (r : Reps K C h vs ds) (hi : i < ds.length) : ∃ x, vs[i]? = some x := ⟨_, List.getElem?_eq_getElem (by rw [r.length]; exact hi)⟩
theorem wk_list {a : Addr} {ds : List D} : Wk K C (Itl K a) ds (SL K C a ds) where
  go := fun i h H ⟨vs, q, r⟩ e hi => let ⟨x, hx⟩ := reps_in r hi; ⟨vs, x, q, hx⟩
  yl := fun i h H x H' ⟨vs, q, r⟩ e hy hi => by
    obtain ⟨e1, e2⟩ := hy
    subst e1
    obtain ⟨d, d1, d2⟩ := reps_at r (e2 vs q)
    exact ⟨d, h, d1, Grew.refl e, d2⟩
  stop := fun h H ⟨vs, q, r⟩ e => ⟨vs, q, Nat.le_of_eq r.length⟩
  up := fun h H h' H' ⟨vs, q, r⟩ e1 e2 e3 => ⟨vs, e3.seq q, r.mono e1⟩
theorem Wk.imp {J : L2.It} {ds : List D} {S S' : Hp → Hp → Prop} (w : Wk K C J ds S) (k : ∀ h H, Same h H → S' h H → S h H) (u : ∀ h H h' H', S' h H → Same h h' → Same h' H' → Same H H' → S' h' H') : Wk K C J ds S' where
  go := fun i h H s e => w.go i h H (k h H e s) e
  yl := fun i h H x H' s e => w.yl i h H x H' (k h H e s) e
  stop := fun h H s e => w.stop h H (k h H e s) e
  up := u
theorem wk_tup {a : Addr} {ds : List D} : Wk K C (Itt K a) ds (STc K C a ds) where
  go := fun i h H ⟨vs, q, r⟩ e hi => let ⟨x, hx⟩ := reps_in r hi; ⟨vs, x, sqT_same e q, hx⟩
  yl := fun i h H x H' ⟨vs, q, r⟩ e hy hi => by
    obtain ⟨e1, e2⟩ := hy
    subst e1
    obtain ⟨d, d1, d2⟩ := reps_at r (e2 vs (sqT_same e q))
    exact ⟨d, h, d1, Grew.refl e, d2⟩
  stop := fun h H ⟨vs, q, r⟩ e => ⟨vs, sqT_same e q, Nat.le_of_eq r.length⟩
  up := fun h H h' H' s e1 e2 _ => clo_STc h H h' H' s e1 e2
theorem rngD_get {lo : Int} {n i : Nat} (hi : i < n) : (rngD lo n)[i]? = some (.int (lo + i)) := by
  unfold rngD
  rw [List.getElem?_map, List.getElem?_range hi]
  rfl
theorem rngD_len {lo : Int} {n : Nat} : (rngD lo n).length = n := by
  unfold rngD
  rw [List.length_map, List.length_range]
theorem wk_rng {lo : Int} {n : Nat} : Wk K C (Itr lo n) (rngD lo n) (fun _ _ => True) where
  go := fun i h H _ e hi => by rw [rngD_len] at hi; exact hi
  yl := fun i h H x H' _ e hy hi => by
    obtain ⟨e1, e2⟩ := hy
    subst e1
    subst e2
    rw [rngD_len] at hi
    exact ⟨_, h, rngD_get hi, Grew.refl e, .int _⟩
  stop := fun h H _ e => by rw [rngD_len]; exact Nat.le_refl _
  up := fun _ _ _ _ _ _ _ _ => trivial
theorem enumD_get : ∀ {ds : List D} {k i : Nat} {d : D}, ds[i]? = some d → (enumD k ds)[i]? = some (.tup [.int ((k + i : Nat) : Int), d])
  | [], _, _, _, e => by simp at e
  | x :: ds, k, 0, d, e => by
    cases e
    rfl
  | x :: ds, k, i + 1, d, e => by
    have ih := enumD_get (ds := ds) (k := k + 1) (i := i) (d := d) (by simpa using e)
    show (enumD (k + 1) ds)[i]? = _
    rw [ih]
    have : k + 1 + i = k + (i + 1) := by omega
    rw [this]
theorem enumD_len : ∀ (ds : List D) (k : Nat), (enumD k ds).length = ds.length
  | [], _ => rfl
  | _ :: ds, k => congrArg (· + 1) (enumD_len ds (k + 1))
theorem grew_pair {h H : Hp} {t : Addr} {x y : V} {d d' : D} (e : Same h H) (n : H t = none) (r1 : Rep K C h x d) (r2 : Rep K C h y d') :
    Grew h H (upd h t (.tup [x, y])) (upd H t (.tup [x, y])) ∧ Rep K C (upd h t (.tup [x, y])) (.ref t) (.tup [d, d']) := by
  have g : Grew h H (upd h t (.tup [x, y])) (upd H t (.tup [x, y])) := upd_grew e n
  exact ⟨g, .tup (SqT.of upd_same) (.cons (r1.mono g.sml) (.cons (r2.mono g.sml) .nil))⟩
theorem wk_enum {a : Addr} {ds : List D} : Wk K C (Ite K a) (enumD 0 ds) (SL K C a ds) where
  go := fun i h H ⟨vs, q, r⟩ e hi => let ⟨x, hx⟩ := reps_in r (by rw [enumD_len] at hi; exact hi); ⟨vs, x, q, hx⟩
  yl := fun i h H x H' ⟨vs, q, r⟩ e hy hi => by
    obtain ⟨t, y, rfl, hn, rfl, e2⟩ := hy
    obtain ⟨d, d1, d2⟩ := reps_at r (e2 vs q)
    obtain ⟨g, rp⟩ := grew_pair (K := K) (C := C) (x := V.int (i : Nat)) (d := D.int (i : Nat)) e hn (.int _) d2
    refine ⟨_, _, enumD_get d1, g, ?_⟩
    rw [Nat.zero_add]
    exact rp
  stop := fun h H ⟨vs, q, r⟩ e => by rw [enumD_len]; exact ⟨vs, q, Nat.le_of_eq r.length⟩
  up := fun h H h' H' ⟨vs, q, r⟩ e1 e2 e3 => ⟨vs, e3.seq q, r.mono e1⟩
theorem zipD_get : ∀ {as bs : List D} {i : Nat} {a b : D}, as[i]? = some a → bs[i]? = some b → (zipD as bs)[i]? = some (.tup [a, b])
  | [], _, _, _, _, e, _ => by simp at e
  | _ :: _, [], _, _, _, _, e => by simp at e
  | x :: as, y :: bs, 0, a, b, e1, e2 => by
    cases e1
    cases e2
    rfl
  | x :: as, y :: bs, i + 1, a, b, e1, e2 => zipD_get (as := as) (bs := bs) (i := i) (by simpa using e1) (by simpa using e2)
theorem zipD_len : ∀ (as bs : List D), (zipD as bs).length = min as.length bs.length
  | [], bs => by rw [List.length_nil, Nat.zero_min]; cases bs <;> rfl
  | _ :: _, [] => by rw [List.length_nil, Nat.min_zero]; rfl
  | _ :: as, _ :: bs => by
    show (zipD as bs).length + 1 = _
    rw [zipD_len as bs, List.length_cons, List.length_cons, Nat.add_min_add_right]
theorem wk_zip {a b : Addr} {ds es : List D} : Wk K C (Itz K a b) (zipD ds es) (fun h H => SL K C a ds h H ∧ SL K C b es h H) where
  go := fun i h H ⟨⟨vs, q, r⟩, ⟨ws, q', r'⟩⟩ e hi => by
    rw [zipD_len] at hi
    obtain ⟨x, hx⟩ := reps_in r (Nat.lt_of_lt_of_le hi (Nat.min_le_left _ _))
    obtain ⟨y, hy⟩ := reps_in r' (Nat.lt_of_lt_of_le hi (Nat.min_le_right _ _))
    exact ⟨vs, ws, x, y, q, q', hx, hy⟩
  yl := fun i h H x H' ⟨⟨vs, q, r⟩, ⟨ws, q', r'⟩⟩ e hy hi => by
    obtain ⟨t, x, y, rfl, hn, rfl, e2, e3⟩ := hy
    obtain ⟨d, d1, d2⟩ := reps_at r (e2 vs q)
    obtain ⟨d', d1', d2'⟩ := reps_at r' (e3 ws q')
    obtain ⟨g, rp⟩ := grew_pair (K := K) (C := C) e hn d2 d2'
    exact ⟨_, _, zipD_get d1 d1', g, rp⟩
  stop := fun h H ⟨⟨vs, q, r⟩, ⟨ws, q', r'⟩⟩ e => by
    rw [zipD_len]
    refine ⟨vs, ws, q, q', ?_⟩
    rw [r.length, r'.length]
    omega
  up := fun h H h' H' ⟨⟨vs, q, r⟩, ⟨ws, q', r'⟩⟩ e1 e2 e3 => ⟨⟨vs, e3.seq q, r.mono e1⟩, ⟨ws, e3.seq q', r'.mono e1⟩⟩
theorem wk_zipT {a b : Addr} {ds es : List D} : Wk K C (RZ.ItzT K a b) (zipD ds es) (fun h H => STc K C a ds h H ∧ STc K C b es h H) where
  go := fun i h H ⟨⟨vs, q, r⟩, ⟨ws, q', r'⟩⟩ e hi => by
    rw [zipD_len] at hi
    obtain ⟨x, hx⟩ := reps_in r (Nat.lt_of_lt_of_le hi (Nat.min_le_left _ _))
    obtain ⟨y, hy⟩ := reps_in r' (Nat.lt_of_lt_of_le hi (Nat.min_le_right _ _))
    exact ⟨vs, ws, x, y, sqT_same e q, sqT_same e q', hx, hy⟩
  yl := fun i h H x H' ⟨⟨vs, q, r⟩, ⟨ws, q', r'⟩⟩ e hy hi => by
    obtain ⟨t, x, y, rfl, hn, rfl, e2, e3⟩ := hy
    obtain ⟨d, d1, d2⟩ := reps_at r (e2 vs (sqT_same e q))
    obtain ⟨d', d1', d2'⟩ := reps_at r' (e3 ws (sqT_same e q'))
    obtain ⟨g, rp⟩ := grew_pair (K := K) (C := C) e hn d2 d2'
    exact ⟨_, _, zipD_get d1 d1', g, rp⟩
  stop := fun h H ⟨⟨vs, q, r⟩, ⟨ws, q', r'⟩⟩ e => by
    rw [zipD_len]
    refine ⟨vs, ws, sqT_same e q, sqT_same e q', ?_⟩
    rw [r.length, r'.length]
    omega
  up := fun h H h' H' ⟨s1, s2⟩ e1 e2 _ => ⟨clo_STc h H h' H' s1 e1 e2, clo_STc h H h' H' s2 e1 e2⟩
end
end Mi
/-! MiSnd: the check of expressions; what their walk hands on. -/
namespace Mi
open PySem PySem.Spec PyProof.Rows L2

/-! ### nothing owned is touched -/
mutual
def E.q : E → Bool
  | .bin _ a b => a.q && b.q
  | .neg a => a.q
  | .cmp _ a b => a.q && b.q
  | .and a b => a.q && b.q
  | .or a b => a.q && b.q
  | .not a => a.q
  | .ife t a b => t.q && a.q && b.q
  | .tup es => es.q
  | .lst es => es.q
  | .ix a i => a.q && i.q
  | .sl a _ _ => a.q
  | .rev a => a.q
  | .at a _ => a.q
  | .call _ es kw _ => es.q && kw.q
  | .f1 _ a => a.q
  | .f2 _ a b => a.q && b.q
  | .lrg1 _ b => b.q
  | .lrg2 _ a b => a.q && b.q
  | .pop _ => false
  | .lc _ _ it cond elt => it.q && cond.q && elt.q
  | _ => true
def Es.q : Es → Bool
  | .nil => true
  | .cons e r => e.q && r.q
  | .mut _ _ => false
def It.q : It → Bool
  | .rng1 a => a.q
  | .rng2 a b => a.q && b.q
  | .seq a => a.q
  | .pth _ => true
  | .enum a => a.q
  | .enumP _ => true
  | .zip a b => a.q && b.q
end
/-- what is walked can't be changed meanwhile -/
def It.clo : It → Bool
  | .pth _ => false
  | .enumP _ => false
  | _ => true
def E.noIf : E → Bool
  | .ife _ _ _ => false
  | .and a b => a.noIf && b.noIf
  | .or a b => a.noIf && b.noIf
  | .not a => a.noIf
  | _ => true

/-! ### the check -/
def opIs : BOp → Operator → Bool
  | .add, .Add => true | .sub, .Sub => true | .mul, .Mult => true | .fdiv, .FloorDiv => true | .mod, .Mod => true | .pow, .Pow => true
  | _, _ => false
def cmIs : COp → CmpOp → Bool
  | .eq, .Eq => true | .ne, .NotEq => true | .lt, .Lt => true | .le, .LtE => true | .gt, .Gt => true | .ge, .GtE => true | .isn, .Is => true | .notn, .IsNot => true | .ist, .Is => true | .notist, .IsNot => true
  | _, _ => false
def F1.nm : F1 → Str
  | .len => "len" | .int => "int" | .str => "str" | .repr => "repr" | .tuple => "tuple" | .list => "list" | .sum => "sum" | .max => "max" | .min => "min" | .abs => "abs" | .all => "all" | .any => "any"
def F2.nm : F2 → Str
  | .max => "max" | .min => "min"
def notCall0 : Expr → Bool
  | .Call _ [] [] _ => false
  | _ => true
def isTup : Expr → Bool
  | .Tuple _ _ _ => true
  | _ => false
def noSet : Expr → Bool
  | .Set _ _ _ => false
  | _ => true
/-- own names of a comprehension, with their slots -/
def ownOf (c : Ck) (own : List Nat) : List (Str × Nat) := own.map fun i => (c.N.getD i "", i)
def Ck.blk (c : Ck) (scope : Scope) : Ck := ⟨relS scope c.sc, c.N, fun x => scope.names.lookup x == some .cell⟩
def okO (I : Inf) (c : Ck) : Option X0 → Option Expr → Bool
  | none, none => true
  | some x, some e => ok0 I c x e
  | _, _ => false
mutual
def okE (I : Inf) (c : Ck) : E → Expr → Bool
  | .int i, e => match e with | .Constant (.int j) _ _ => decide (i = j) | _ => false
  | .bl i, e => match e with | .Constant (.bool j) _ _ => decide (i = j) | _ => false
  | .non, e => match e with | .Constant .none _ _ => true | _ => false
  | .str i, e => match e with | .Constant (.str j) _ _ => decide (i = j) | _ => false
  | .glb x, e => match e with | .Name y _ => decide (x = y) && glo c x && plainN x && (I.glb.lookup x).isSome | _ => false
  | .x x, e => ok0 I c x e
  | .get p, e => okP I c p e
  | .bin op a b, e => match e with | .BinOp x o y _ => opIs op o && okE I c a x && okE I c b y | _ => false
  | .neg a, e => match e with | .UnaryOp .USub x _ => okE I c a x | _ => false
  | .cmp op a b, e => match e with | .Compare x [o] [y] _ => cmIs op o && okE I c a x && okE I c b y | _ => false
  | .emp n p, e => match e with | .Compare x [o] [.List [] _] _ => cmIs (if n then .ne else .eq) o && okP I c p x | _ => false
  | .and a b, e => match e with
    | .BoolOp .And [x, y] _ => okE I c a x && okE I c b y
    | .BoolOp .And (x :: y :: z :: r) p => okE I c a x && okE I c b (.BoolOp .And (y :: z :: r) p)
    | _ => false
  | .or a b, e => match e with
    | .BoolOp .Or [x, y] _ => okE I c a x && okE I c b y
    | .BoolOp .Or (x :: y :: z :: r) p => okE I c a x && okE I c b (.BoolOp .Or (y :: z :: r) p)
    | _ => false
  | .not a, e => match e with | .UnaryOp .Not x _ => a.noIf && okE I c a x | _ => false
  | .ife t a b, e => match e with | .IfExp x y z _ => t.noIf && okE I c t x && okE I c a y && okE I c b z | _ => false
  | .tup es, e => match e with | .Tuple xs _ _ => okEs I c es xs | _ => false
  | .lst es, e => match e with | .List xs _ => okEs I c es xs | _ => false
  | .ix a i, e => match e with | .Subscript x y _ => noSlice y && okE I c a x && okE I c i y | _ => false
  | .sl a lo hi, e => match e with | .Subscript x (.Slice l h none _) _ => okE I c a x && okO I c lo l && okO I c hi h | _ => false
  | .rev a, e => match e with | .Subscript x (.Slice none none (some (.UnaryOp .USub (.Constant (.int 1) _ _) _)) _) _ => okE I c a x | _ => false
  | .at a f, e => match e with | .Attribute x g _ => decide (f = g) && I.fld.contains f && notCall0 x && okE I c a x | _ => false
  | .call f es kw pm, e => match e with
    | .Call (.Name x _) as ks _ => decide (I.fnm[f]? = some x) && glo c x && plainN x && as.all noStar && ks.all (fun k => k.arg.isSome) && okEs I c es as && okKs I c kw ks && decide ((f, as.length, kwNames ks, pm) ∈ I.pat)
    | _ => false
  | .f1 f a, e => match e with | .Call (.Name x _) [y] [] _ => decide (x = f.nm) && glo c f.nm && noStar y && okE I c a y | _ => false
  | .f1p f p, e => match e with | .Call (.Name x _) [y] [] _ => decide (x = f.nm) && glo c f.nm && noStar y && okP I c p y | _ => false
  | .f2 f a b, e => match e with | .Call (.Name x _) [y, z] [] _ => decide (x = f.nm) && glo c f.nm && noStar y && noStar z && okE I c a y && okE I c b z | _ => false
  | .lrg1 tu b, e => match e with
    | .Call (.Name x _) [.Call (.Name y _) [z] [] _] [] _ => decide (x = (if tu then "tuple" else "list" : Str)) && decide (y = ("range" : Str)) && glo c (if tu then "tuple" else "list") && glo c "range" && noStar z && okE I c b z
    | _ => false
  | .lrg2 tu a b, e => match e with
    | .Call (.Name x _) [.Call (.Name y _) [z, w] [] _] [] _ => decide (x = (if tu then "tuple" else "list" : Str)) && decide (y = ("range" : Str)) && glo c (if tu then "tuple" else "list") && glo c "range" && noStar z && noStar w && okE I c a z && okE I c b w
    | _ => false
  | .pop p, e => match e with | .Call (.Attribute x m ap) [] [] cp => decide (m = ("pop" : Str)) && (ap.endLine == cp.line) && okP I c p x | _ => false
  | .lc own tg it cond elt, e => match e with
    | .ListComp el [⟨t, iter, ifs, 0⟩] scope _ => blkC c.N c.sc scope (ownOf c own) && okI I c it t iter && okT (c.blk scope) tg t && (it.clo || (cond.q && elt.q)) && cond.noIf && decide (∀ i ∈ tg.slots, i ∈ own) &&
        (match ifs with
          | [] => (match cond with | .bl true => true | _ => false)
          | [x] => okE I (c.blk scope) cond x
          | _ => false) && okE I (c.blk scope) elt el
    | _ => false
def okEs (I : Inf) (c : Ck) : Es → List Expr → Bool
  | .nil, xs => match xs with | [] => true | _ => false
  | .cons e r, xs => match xs with | x :: xs => noStar x && okE I c e x && okEs I c r xs | _ => false
  | .mut i r, xs => match xs with | x :: xs => noStar x && okP I c (.var i) x && okEs I c r xs | _ => false
def okKs (I : Inf) (c : Ck) : Es → List Keyword → Bool
  | .nil, xs => match xs with | [] => true | _ => false
  | .cons e r, xs => match xs with | ⟨_, x, _⟩ :: xs => okE I c e x && okKs I c r xs | _ => false
  | .mut i r, xs => match xs with | ⟨_, x, _⟩ :: xs => okP I c (.var i) x && okKs I c r xs | _ => false
def okI (I : Inf) (c : Ck) : It → Expr → Expr → Bool
  | .rng1 a, _, e => match e with | .Call (.Name x _) [y] [] _ => decide (x = ("range" : Str)) && glo c "range" && noStar y && okE I c a y | _ => false
  | .rng2 a b, _, e => match e with | .Call (.Name x _) [y, z] [] _ => decide (x = ("range" : Str)) && glo c "range" && noStar y && noStar z && okE I c a y && okE I c b z | _ => false
  | .seq a, _, e => noSet e && okE I c a e
  | .pth p, _, e => noSet e && okP I c p e
  | .enum a, t, e => match e with | .Call (.Name x _) [y] [] _ => decide (x = ("enumerate" : Str)) && isTup t && glo c "enumerate" && noStar y && okE I c a y | _ => false
  | .enumP a, t, e => match e with | .Call (.Name x _) [y] [] _ => decide (x = ("enumerate" : Str)) && isTup t && glo c "enumerate" && noStar y && okP I c a y | _ => false
  | .zip a b, t, e => match e with | .Call (.Name x _) [y, z] [] _ => decide (x = ("zip" : Str)) && isTup t && glo c "zip" && noStar y && noStar z && okE I c a y && okE I c b z | _ => false
end

/-! ### what is handed on -/
section
variable (Y : Fx)
def ROk (σ : L2.St) (H h : Hp) (sl : Sl) (rt' : Rt) (vs : List V) (F : List Addr) (q : Bool) (Q : VK) (t : T) : Prop :=
  ∀ v H' h' F' G, Stp F h H F' h' H' → Rel Y.K Y.C σ H' h' sl rt' vs F' → Own Y.K Y.C h' H' v t G → (∀ a, a ∈ G → a ∉ F') → (∀ a, a ∈ G → a ∈ F ∨ H a = none) → (q = true → Same H H') → Q v H'
/-- .. as data -/
def DOk (σ : L2.St) (H h : Hp) (sl : Sl) (rt' : Rt) (vs : List V) (F : List Addr) (q : Bool) (Q : VK) (d : D) : Prop :=
  ∀ v H' h' F', Stp F h H F' h' H' → Rel Y.K Y.C σ H' h' sl rt' vs F' → Rep Y.K Y.C h' v d → (q = true → Same H H') → Q v H'
def BOk (σ : L2.St) (H h : Hp) (sl : Sl) (rt' : Rt) (vs : List V) (F : List Addr) (q : Bool) (Q : Bool → Hp → Prop) (b : Bool) : Prop :=
  ∀ H' h' F', Stp F h H F' h' H' → Rel Y.K Y.C σ H' h' sl rt' vs F' → (q = true → Same H H') → Q b H'
def cfg (np : Nat) : Cfg := ⟨Y.F, np, Y.I.glb⟩
def RE (e : E) (t : TE) : Prop := ∀ np mv sl σ H h rt vs F tr rt', Rel Y.K Y.C σ H h sl rt vs F → ev (cfg Y np) mv sl e rt = some (tr, rt') → ∀ Q, ROk Y σ H h sl rt' vs F e.q Q tr → t σ H Q
def SE (c : Ck) (e : E) (a : Expr) : Prop := ∃ t, (∀ X, Gd Y c X → PE X a t) ∧ RE Y e t
def isBo : Expr → Bool
  | .BoolOp _ _ _ => true
  | _ => false
def RT (e : E) (t : TT) : Prop := ∀ np sl σ H h rt vs F b rt', Rel Y.K Y.C σ H h sl rt vs F → tstOf (ev (cfg Y np) false sl e rt) = some (b, rt') → ∀ Q, BOk Y σ H h sl rt' vs F e.q Q b → t σ H Q
def STs (c : Ck) (e : E) (a : Expr) : Prop := e.noIf = true → ∃ t, (∀ X, Gd Y c X → PT X a t ∧ (isBo a = true → PW X a t)) ∧ RT Y e t
def RAs (es : Es) (t : TA) : Prop := ∀ np mv sl σ H h rt vs F ts rt', Rel Y.K Y.C σ H h sl rt vs F → evs (cfg Y np) mv sl es rt = some (ts, rt') → ∀ Q : List V → Hp → Prop,
  (∀ ws H' h' F' G, Stp F h H F' h' H' → Rel Y.K Y.C σ H' h' sl rt' vs F' → Owns Y.K Y.C h' H' ws ts G → (∀ a, a ∈ G → a ∉ F') → (∀ a, a ∈ G → a ∈ F ∨ H a = none) → (es.q = true → Same H H') → Q ws H') → t σ H Q
/-- a call's arguments: data, or a root -/
def ArgV (h : Hp) (vs : List V) (v : V) : D ⊕ Nat → Prop
  | .inl d => Rep Y.K Y.C h v d
  | .inr k => vs[k]? = some v
inductive ArgsV (h : Hp) (vs : List V) : List V → List (D ⊕ Nat) → Prop
  | nil : ArgsV h vs [] []
  | cons {v : V} {ws : List V} {x : D ⊕ Nat} {xs : List (D ⊕ Nat)} : ArgV Y h vs v x → ArgsV h vs ws xs → ArgsV h vs (v :: ws) (x :: xs)
def RAA (es : Es) (t : TA) : Prop := ∀ np sl σ H h rt vs F xs rt', Rel Y.K Y.C σ H h sl rt vs F → evA (cfg Y np) sl es rt = some (xs, rt') → ∀ Q : List V → Hp → Prop,
  (∀ ws H' h' F', Stp F h H F' h' H' → Rel Y.K Y.C σ H' h' sl rt' vs F' → ArgsV Y h' vs ws xs → (es.q = true → Same H H' ∧ ∀ x ∈ xs, ∃ d, x = .inl d) → Q ws H') → t σ H Q
def RI (it : It) (w : TI) : Prop := ∀ np sl σ H h rt vs F ds rt', Rel Y.K Y.C σ H h sl rt vs F → evI (cfg Y np) sl it rt = some (ds, rt') → ∀ R : L2.It → Hp → Prop,
  (∀ J H' h' F' S, Stp F h H F' h' H' → Rel Y.K Y.C σ H' h' sl rt' vs F' → Wk Y.K Y.C J ds S → S h' H' → (it.clo = true → Clo S) → (it.q = true → Same H H') → R J H') → w σ H R
end
section
variable {Y : Fx}
theorem Stp.back {F F' : List Addr} {h h' H H' : Hp} (x : Stp F h H F' h' H') : ∀ a, H' a = none → a ∈ F ∨ H a = none := fun a n => by
  by_cases z : a ∈ F
  · exact .inl z
  · right
    cases q : H a with
    | none => rfl
    | some o => rw [x.keep a o q z] at n; cases n
/-- owned or not, as data -/
theorem DOk.r {σ : L2.St} {H h : Hp} {sl : Sl} {rt' : Rt} {vs : List V} {F : List Addr} {q : Bool} {Q : VK} {t : T} (d : DOk Y σ H h sl rt' vs F q Q t.d) : ROk Y σ H h sl rt' vs F q Q t := by
  intro v H' h' F' G st rl ow dj fr qq
  obtain ⟨r2, rp⟩ := rl.shut ow dj
  exact d v H' (ov h' H' G) F' (st.shut ow fr) r2 rp qq
/-- a value operation behind a walk -/
theorem ROk.made {σ : L2.St} {H h H1 h1 : Hp} {sl : Sl} {rt' : Rt} {vs : List V} {F F1 : List Addr} {q q1 : Bool} {Q : VK} {t : T} (r : ROk Y σ H h sl rt' vs F q Q t) (st : Stp F h H F1 h1 H1) (rl : Rel Y.K Y.C σ H1 h1 sl rt' vs F1)
    (s : q1 = true → Same H H1) (hq : q = true → q1 = true) : Made Y.K Y.C h1 H1 Q t := by
  intro w h' H' G g ow nw
  refine r w H' h' F1 G (st.trans g.stp) (g.rel rl) ow (fun a z z' => ?_) (fun a z => st.back a (nw a z)) fun e => (s (hq e)).trans g.big
  obtain ⟨_, o, e⟩ := rl.own.at a z'
  rw [nw a z] at e
  cases e
theorem ROk.val {σ : L2.St} {H h H1 h1 : Hp} {sl : Sl} {rt' : Rt} {vs : List V} {F F1 : List Addr} {q q1 : Bool} {Q : VK} {d : D} {v : V} (r : ROk Y σ H h sl rt' vs F q Q (.cl d)) (st : Stp F h H F1 h1 H1) (rl : Rel Y.K Y.C σ H1 h1 sl rt' vs F1)
    (s : q1 = true → Same H H1) (hq : q = true → q1 = true) (rp : Rep Y.K Y.C h1 v d) : Q v H1 := (r.made st rl s hq).same rl.sub rp
/-- after one part, the next -/
theorem RE.d {e : E} {t : TE} (re : RE Y e t) {np : Nat} {mv : Bool} {sl : Sl} {σ : L2.St} {H h : Hp} {rt rt' : Rt} {vs : List V} {F : List Addr} {tr : T} (rl : Rel Y.K Y.C σ H h sl rt vs F) (hv : ev (cfg Y np) mv sl e rt = some (tr, rt')) {Q : VK}
    (k : DOk Y σ H h sl rt' vs F e.q Q tr.d) : t σ H Q := re np mv sl σ H h rt vs F tr rt' rl hv Q k.r
theorem attr_base {x : Expr} {f : Str} {env : Env} (h : notCall0 x = true) : attributeBase x f env (eval x env) = eval x env := by
  cases x with
  | Call g as ks p =>
    cases as with
    | cons a as => cases g <;> rfl
    | nil =>
      cases ks with
      | cons a as => cases g <;> rfl
      | nil => cases h
  | _ => rfl
theorem path_base {I : Inf} {c : Ck} {p : P} {x : Expr} {f : Str} {env : Env} (h : okP I c p x = true) : attributeBase x f env (eval x env) = eval x env := by
  cases p with
  | var i => unfold okP at h; split at h <;> first | rfl | cases h
  | ix p e => unfold okP at h; split at h <;> first | rfl | cases h
  | «at» p g => unfold okP at h; split at h <;> first | rfl | cases h
theorem F1.boot (f : F1) : bootBuiltins f.nm = some f.val ∧ f.nm ∈ bltNames ∧ plainN f.nm = true ∧ ((∃ id, f.val = .builtin id) ∨ ∃ T, f.val = .type T) := by
  cases f <;> exact ⟨by decide +kernel, by decide +kernel, by decide +kernel, by first | exact .inl ⟨_, rfl⟩ | exact .inr ⟨_, rfl⟩⟩
theorem F2.boot (f : F2) : bootBuiltins f.nm = some f.val ∧ f.nm ∈ bltNames ∧ plainN f.nm = true ∧ ((∃ id, f.val = .builtin id) ∨ ∃ T, f.val = .type T) := by
  cases f <;> exact ⟨by decide +kernel, by decide +kernel, by decide +kernel, by first | exact .inl ⟨_, rfl⟩ | exact .inr ⟨_, rfl⟩⟩
/-- a plain expression as a test -/
def tOk : Expr → Prop
  | .UnaryOp .Not _ _ => False | .BoolOp _ _ _ => False | .IfExp _ _ _ _ => False | .Compare _ _ _ _ => False | _ => True
theorem test_of {c : Ck} {e : E} {a : Expr} (s : SE Y c e a) (ha : tOk a) : STs Y c e a := by
  intro _
  obtain ⟨t, pe, re⟩ := s
  refine ⟨tB t, fun X g => ⟨pt_val (pe X g) (fun wh => ?_), fun z => ?_⟩, fun np sl σ H h rt vs F b rt' rl hv Q k => ?_⟩
  · cases a with
    | UnaryOp o x p => cases o <;> first | rfl | exact ha.elim
    | BoolOp _ _ _ => exact ha.elim
    | IfExp _ _ _ _ => exact ha.elim
    | Compare _ _ _ _ => exact ha.elim
    | _ => rfl
  · cases a <;> first | exact ha.elim | cases z
  · unfold tstOf at hv
    split at hv
    · rename_i b' rt2 e1
      cases hv
      refine re np false sl σ H h rt vs F _ _ rl e1 _ fun v H' h' F' G st rl' ow dj fr qq => ?_
      have rp := rep_d ow
      cases rp
      exact ⟨b, rfl, k H' h' F' st rl' qq⟩
    · cases hv
theorem leaves_ok {K : PySem.W.Frag} {C : Nat → Addr} {h H : Hp} : ∀ {vs : List V} {ts : List T} {F : List Addr} {ds : List D}, Owns K C h H vs ts F → T.leaves ts = some ds → Reps K C h vs ds ∧ T.ds ts = ds
  | _, _, _, ds, .nil, e => by
    cases e
    exact ⟨.nil, rfl⟩
  | _, _, _, ds, .cons (t := t) p r _, e => by
    cases p with
    | cl q =>
      unfold T.leaves at e
      obtain ⟨es, e1, rfl⟩ := Option.map_eq_some_iff.mp e
      obtain ⟨r1, r2⟩ := leaves_ok r e1
      exact ⟨.cons q r1, by unfold T.ds; rw [r2]; rfl⟩
    | _ => cases e
/-- a tree that is walked lies as data -/
theorem lie_of {K : PySem.W.Frag} {C : Nat → Addr} {h H : Hp} {v : V} {t : T} {F : List Addr} {ds : List D} (o : Own K C h H v t F) (e : t.items = some ds) : Lie K C h H v t.d := by
  cases o with
  | cl r => exact .rep r
  | ls q n r _ =>
    obtain ⟨r1, r2⟩ := leaves_ok r e
    show Lie K C h H _ (.lst _)
    rw [r2]
    exact .top q r1
  | _ => cases e
end
end Mi
/-! MiCall: a name or path as a value; the call of a def; a list's last item taken. -/
namespace Mi
open PySem PySem.Spec PyProof.Rows L2
section
variable {Y : Fx} {K : PySem.W.Frag} {C : Nat → Addr} {h H h' H' : Hp}
theorem pt_root {sl : Sl} {rt : Rt} {k : Nat} : ∀ {p : P} {u : T}, pt sl rt p = some u → sl[p.root]? = some (some (.r k)) → ∃ tk, rt[k]? = some (some tk) ∧ (p.isVar = true → tk = u)
  | .var i, u, e, s => by
    have s : sl[i]? = some (some (.r k)) := s
    unfold pt at e
    rw [s] at e
    simp only at e
    split at e
    · rename_i t ht
      cases e
      exact ⟨_, ht, fun _ => rfl⟩
    · cases e
  | .ix p x, u, e, s => by
    unfold pt at e
    split at e
    · rename_i t i h1 h2
      obtain ⟨tk, q, _⟩ := pt_root h1 s
      exact ⟨tk, q, fun z => by cases z⟩
    · cases e
  | .at p f, u, e, s => by
    unfold pt at e
    split at e
    · rename_i t h1
      obtain ⟨tk, q, _⟩ := pt_root h1 s
      exact ⟨tk, q, fun z => by cases z⟩
    · cases e
theorem close_eq {rt : Rt} {k : Nat} {t : T} (e : rt[k]? = some (some t)) : close rt k = rt.set k (some (.cl t.d)) := by
  unfold close
  apply List.ext_getElem?
  intro j
  rw [List.getElem?_modify, List.getElem?_set]
  by_cases hj : k = j
  · subst hj
    have hl : k < rt.length := (List.getElem?_eq_some_iff.mp e).1
    rw [if_pos rfl, if_pos hl, e]
    simp
  · rw [if_neg hj]
    simp [hj]
/-- a root becomes data -/
theorem Rel.close {σ : L2.St} {sl : Sl} {rt : Rt} {vs : List V} {F : List Addr} {k : Nat} {t : T} (r : Rel K C σ H h sl rt vs F) (e : rt[k]? = some (some t)) :
    ∃ vk Fk F', vs[k]? = some vk ∧ Own K C h H vk t Fk ∧ (∀ a, a ∈ Fk → a ∈ F) ∧ Rel K C σ H (ov h H Fk) sl (close rt k) vs F' ∧ (∀ a, a ∈ F' → a ∈ F) := by
  obtain ⟨vk, Fk, e1, o, s, w⟩ := r.own.get e
  have e2 : Same h (ov h H Fk) := ov_same fun a z => (o.at a z).1
  obtain ⟨F', w1, w2⟩ := w (ov h H Fk) H (.cl t.d) [] e2 (fun a z n => ⟨rfl, by rw [ov_out n]; exact (r.own.at a z).1⟩) (.cl (o.rep e2 fun a z => ov_in z)) fun a z => absurd z (by simp)
  refine ⟨vk, Fk, F', e1, o, s, ⟨ov_sub r.sub, by rw [close_eq e]; exact w1, fun i s' e' => ?_, r.len⟩, fun a z => ?_⟩
  · obtain ⟨v, a1, a2⟩ := r.slt i s' e'
    exact ⟨v, a1, a2.mono e2⟩
  · rcases w2 a z with z | z
    · exact z
    · exact absurd z (by simp)
theorem snd_get (y : Y.Ok) (p : P) (c : Ck) (a : Expr) (ok : okP Y.I c p a = true) : SE Y c (.get p) a := by
  obtain ⟨t, pe, re⟩ := sndP y p a ok
  refine ⟨t, pe, fun np mv sl σ H h rt vs F tr rt' rl hv Q k => ?_⟩
  unfold ev at hv
  split at hv
  · rename_i d hp
    cases hv
    refine re sl rt σ H h vs F rl _ hp Q fun v at0 => ?_
    obtain ⟨F0, pr, _⟩ := at0
    exact k.val (q1 := true) Stp.refl rl (fun _ => Same.refl H) (fun _ => rfl) (rep_d pr.1)
  · rename_i u hn hp
    split at hv
    · rename_i kk hs
      obtain ⟨tk, htk, hvar⟩ := pt_root hp hs
      refine re sl rt σ H h vs F rl _ hp Q fun v at0 => ?_
      obtain ⟨F1, pr, inn⟩ := at0
      split at hv
      · rename_i hm
        cases hv
        simp only [Bool.and_eq_true] at hm
        have e1 := hvar hm.1.2
        subst e1
        obtain ⟨vk, Fk, F', e1, o, ow, s1, s2, s3⟩ := rl.own.take1 htk
        have hin : ∀ a, a ∈ F1 → a ∈ Fk := fun a z => inn a z kk tk vk Fk hs htk e1 o
        refine k v H h F' F1 ⟨fun a o e n => e, fun _ _ e => e, fun a o n e => ?_, fun a z => .inl (s2 a z)⟩ ⟨rl.sub, ow, rl.slt, rl.len⟩ pr.1 (fun a z => s3 a (hin a z)) (fun a z => .inl (pr.2.1 a z)) fun _ => Same.refl H
        rw [n] at e
        cases e
      · cases hv
        obtain ⟨vk, Fk, F', e1, o, s1, rl2, s2⟩ := rl.close htk
        have hin : ∀ a, a ∈ F1 → a ∈ Fk := fun a z => inn a z kk tk vk Fk hs htk e1 o
        have e2 : Same h (ov h H Fk) := ov_same fun a z => (o.at a z).1
        refine k v H (ov h H Fk) F' [] ⟨fun a o e n => e, e2, fun a u' n e => ?_, fun a z => .inl (s2 a z)⟩ rl2 (.cl (pr.1.rep e2 fun a z => ov_in (hin a z))) (fun a z => absurd z (by simp)) (fun a z => absurd z (by simp)) fun _ => Same.refl H
        by_cases z : a ∈ Fk
        · exact .inl (s1 a z)
        · rw [ov_out z, n] at e
          cases e
    · cases hv
  · cases hv

/-! ### a call's arguments -/
theorem ArgV.mono {vs : List V} {v : V} {x : D ⊕ Nat} (e : Same h h') (a : ArgV Y h vs v x) : ArgV Y h' vs v x := by
  cases x with
  | inl d => exact Rep.mono e a
  | inr k => exact a
theorem ArgsV.mono {vs : List V} (e : Same h h') : ∀ {ws : List V} {xs : List (D ⊕ Nat)}, ArgsV Y h vs ws xs → ArgsV Y h' vs ws xs
  | _, _, .nil => .nil
  | _, _, .cons a r => .cons (a.mono e) (ArgsV.mono e r)
theorem ArgsV.append {vs : List V} : ∀ {ws zs : List V} {xs ys : List (D ⊕ Nat)}, ArgsV Y h vs ws xs → ArgsV Y h vs zs ys → ArgsV Y h vs (ws ++ zs) (xs ++ ys)
  | _, _, _, _, .nil, q => q
  | _, _, _, _, .cons a r, q => .cons a (ArgsV.append r q)
theorem ArgsV.length {vs : List V} : ∀ {ws : List V} {xs : List (D ⊕ Nat)}, ArgsV Y h vs ws xs → ws.length = xs.length
  | _, _, .nil => rfl
  | _, _, .cons _ r => congrArg (· + 1) (ArgsV.length r)
theorem ArgsV.get {vs : List V} : ∀ {ws : List V} {xs : List (D ⊕ Nat)} {i : Nat} {x : D ⊕ Nat}, ArgsV Y h vs ws xs → xs[i]? = some x → ∃ w, ws[i]? = some w ∧ ArgV Y h vs w x
  | _, _, 0, _, .cons a r, e => by
    cases e
    exact ⟨_, rfl, a⟩
  | _, _, i + 1, _, .cons a r, e => by
    obtain ⟨w, e1, e2⟩ := ArgsV.get (i := i) r (by simpa using e)
    exact ⟨w, by simpa using e1, e2⟩
theorem ArgsV.perm {vs : List V} {ws : List V} {xs : List (D ⊕ Nat)} (a : ArgsV Y h vs ws xs) : ∀ {pm : List Nat} {ys : List (D ⊕ Nat)}, perm xs pm = some ys → ∃ zs, Mi.perm ws pm = some zs ∧ ArgsV Y h vs zs ys
  | [], ys, e => by
    cases e
    exact ⟨[], rfl, .nil⟩
  | i :: pm, ys, e => by
    unfold Mi.perm at e
    split at e
    · rename_i x r e1 e2
      cases e
      obtain ⟨w, w1, w2⟩ := a.get e1
      obtain ⟨zs, z1, z2⟩ := ArgsV.perm a e2
      exact ⟨w :: zs, by unfold Mi.perm; rw [w1, z1], .cons w2 z2⟩
    · cases e
theorem clr_get {k : Nat} : ∀ {xs : List (D ⊕ Nat)} {rt : Rt}, k ∉ mutsOf xs → (clr rt xs)[k]? = rt[k]?
  | [], _, _ => rfl
  | .inl _ :: r, rt, n => clr_get (xs := r) n
  | .inr j :: r, rt, n => by
    have n1 : ¬ (k = j) := fun z => n (by rw [z]; exact List.mem_cons_self)
    have n2 : k ∉ mutsOf r := fun z => n (List.mem_cons_of_mem _ z)
    show (clr (rt.set j none) r)[k]? = _
    rw [clr_get n2, List.getElem?_set_ne (fun z => n1 z.symm)]
theorem argsOf_set {j : Nat} {o : Option T} : ∀ {xs : List (D ⊕ Nat)} {rt : Rt}, j ∉ mutsOf xs → argsOf (rt.set j o) xs = argsOf rt xs
  | [], _, _ => rfl
  | .inl _ :: r, rt, n => by
    unfold argsOf
    rw [argsOf_set (xs := r) n]
  | .inr k :: r, rt, n => by
    have n1 : ¬ (j = k) := fun z => n (by rw [z]; exact List.mem_cons_self)
    have n2 : j ∉ mutsOf r := fun z => n (List.mem_cons_of_mem _ z)
    unfold argsOf
    rw [List.getElem?_set_ne n1, argsOf_set n2]
/-- the arguments' trees, taken out of the roots -/
theorem OwnR.pick {vs : List V} : ∀ {ws : List V} {xs : List (D ⊕ Nat)} {rt : Rt} {F : List Addr} {ts : List T}, OwnR Y.K Y.C h H vs rt F → ArgsV Y h vs ws xs → (mutsOf xs).Nodup → argsOf rt xs = some ts →
    ∃ Fp Fr, Owns Y.K Y.C h H ws ts Fp ∧ (∀ a, a ∈ Fp → a ∈ F) ∧ OwnR Y.K Y.C h H vs (clr rt xs) Fr ∧ (∀ a, a ∈ Fr → a ∈ F) ∧ (∀ a, a ∈ Fp → a ∉ Fr) ∧ ((∀ x ∈ xs, ∃ d, x = .inl d) → Fp = [])
  | _, [], rt, F, ts, o, .nil, _, e => by
    cases e
    exact ⟨[], F, .nil, fun a z => absurd z (by simp), o, fun a z => z, fun a z => absurd z (by simp), fun _ => rfl⟩
  | _, .inl d :: r, rt, F, ts, o, .cons a q, n, e => by
    unfold argsOf at e
    obtain ⟨ts', e1, rfl⟩ := Option.map_eq_some_iff.mp e
    obtain ⟨Fp, Fr, o1, s1, o2, s2, dj, al⟩ := OwnR.pick o q n e1
    exact ⟨[] ++ Fp, Fr, .cons (.cl a) o1 fun a z => absurd z (by simp), s1, o2, s2, dj, fun z => al fun x hx => z x (List.mem_cons_of_mem _ hx)⟩
  | _, .inr k :: r, rt, F, ts, o, .cons a q, n, e => by
    unfold argsOf at e
    split at e
    · rename_i t ht
      obtain ⟨ts', e1, rfl⟩ := Option.map_eq_some_iff.mp e
      have n' : k ∉ mutsOf r ∧ (mutsOf r).Nodup := List.nodup_cons.mp n
      obtain ⟨vk, F1, F', e2, ow, o', s1, s2, s3⟩ := o.take1 ht
      have ha : vs[k]? = some _ := a
      rw [e2] at ha
      cases ha
      obtain ⟨Fp, Fr, o1, a1, o2, a2, dj, al⟩ := OwnR.pick o' q n'.2 ((argsOf_set n'.1).trans e1)
      refine ⟨F1 ++ Fp, Fr, .cons ow o1 fun b z z' => s3 b z (a1 b z'), fun b z => ?_, o2, fun b z => s2 b (a2 b z), fun b z z' => ?_, fun z => ?_⟩
      · exact (List.mem_append.mp z).elim (s1 b) fun z => s2 b (a1 b z)
      · rcases List.mem_append.mp z with z | z
        · exact s3 b z (a2 b z')
        · exact dj b z z'
      · obtain ⟨d, hd⟩ := z _ List.mem_cons_self
        cases hd
    · cases e
/-- .. and put back -/
theorem OwnR.backTo {vs : List V} : ∀ {ws : List V} {xs : List (D ⊕ Nat)} {rt : Rt} {F G : List Addr} {ts : List T} {g : Hp}, OwnR Y.K Y.C h H vs rt F → Owns Y.K Y.C h H ws ts G → ArgsV Y g vs ws xs → vs.length = rt.length → (∀ a, a ∈ G → a ∉ F) →
    ∃ F', OwnR Y.K Y.C h H vs (backOf rt xs ts) F' ∧ ∀ a, a ∈ F' → a ∈ F ∨ a ∈ G
  | _, [], rt, F, G, ts, g, o, q, .nil, _, _ => by
    cases q
    exact ⟨F, o, fun a z => .inl z⟩
  | _, .inl d :: r, rt, F, _, _, g, o, .cons (F := F0) (G := G0) p q dj0, .cons a aa, l, dj => by
    obtain ⟨F', o', s⟩ := OwnR.backTo (xs := r) o q aa l fun b z => dj b (List.mem_append_right _ z)
    exact ⟨F', o', fun b z => (s b z).imp id fun z => List.mem_append_right _ z⟩
  | _, .inr k :: r, rt, F, _, _, g, o, .cons (v := v) (F := F0) (G := G0) p q dj0, .cons a aa, l, dj => by
    have ha : vs[k]? = some v := a
    have hk : k < rt.length := by rw [← l]; exact (List.getElem?_eq_some_iff.mp ha).1
    obtain ⟨F1, o1, s1⟩ := o.put hk p fun b z => dj b (List.mem_append_left _ z)
    have hvs : vs.set k v = vs := by
      apply List.ext_getElem?
      intro j
      rw [List.getElem?_set]
      by_cases hj : k = j
      · subst hj
        rw [if_pos rfl, if_pos (List.getElem?_eq_some_iff.mp ha).1, ha]
      · rw [if_neg hj]
    rw [hvs] at o1
    obtain ⟨F', o', s⟩ := OwnR.backTo (xs := r) o1 q aa (by rw [List.length_set]; exact l) fun b z z' => by
      rcases s1 b z' with y | y
      · exact dj b (List.mem_append_right _ z) y
      · exact dj0 b y z
    exact ⟨F', o', fun b z => (s b z).elim (fun z => (s1 b z).imp id fun z => List.mem_append_left _ z) fun z => .inr (List.mem_append_right _ z)⟩
theorem Stp.ownR {F F' G : List Addr} {vs : List V} {rt : Rt} (x : Stp F h H F' h' H') (o : OwnR K C h H vs rt G) (dj : ∀ a, a ∈ G → a ∉ F) : OwnR K C h' H' vs rt G ∧ ∀ a, a ∈ G → a ∉ F' := by
  refine ⟨o.stay x.up fun a z => ?_, fun a z z' => ?_⟩
  · obtain ⟨n, u, e⟩ := o.at a z
    refine ⟨(x.keep a u e (dj a z)).trans e.symm, ?_⟩
    cases q : h' a with
    | none => rfl
    | some w =>
      rcases x.new a w n q with y | y
      · exact absurd y (dj a z)
      · rw [y] at e; cases e
  · obtain ⟨n, u, e⟩ := o.at a z
    rcases x.fp a z' with y | y
    · exact dj a z y
    · rw [y] at e; cases e
/-- the call, by its arguments' walks -/
theorem read_call {f : Nat} {es kw : Es} {pm : List Nat} {ta tk : TA} {n m : Nat} (ra : RAA Y es ta) (rk : RAA Y kw tk) (hn : ∀ c sl rt xs rt', evA c sl es rt = some (xs, rt') → xs.length = n) (hm : ∀ c sl rt xs rt', evA c sl kw rt = some (xs, rt') → xs.length = m) :
    RE Y (.call f es kw pm) (tCallU (spF Y.K Y.C Y.F f) n m pm ta tk) := by
  intro np mv sl σ H h rt vs F tr rt' rl hv Q k
  unfold ev at hv
  split at hv
  · cases hv
  · rename_i as rt1 e1
    split at hv
    · cases hv
    · rename_i bs rt2 e2
      split at hv
      · cases hv
      · rename_i xs e3
        split at hv
        · rename_i nd
          split at hv
          · cases hv
          · rename_i ts e4
            split at hv
            · cases hv
            · rename_i r ts' e5
              split at hv
              · rename_i hlen
                cases hv
                refine ra np sl σ H h rt vs F as rt1 rl e1 _ fun ws1 H1 h1 F1 st1 rl1 av1 q1 => ?_
                refine rk np sl σ H1 h1 rt1 vs F1 bs rt2 rl1 e2 _ fun ws2 H2 h2 F2 st2 rl2 av2 q2 => ?_
                have av : ArgsV Y h2 vs (ws1 ++ ws2) (as ++ bs) := (av1.mono st2.up).append av2
                obtain ⟨ws, w1, w2⟩ := av.perm e3
                obtain ⟨Fp, Fr, o1, s1, o2, s2, dj, al⟩ := rl2.own.pick w2 nd e4
                refine ⟨av1.length.trans (hn _ _ _ _ _ e1), av2.length.trans (hm _ _ _ _ _ e2), ws, w1, h2, ts, Fp, _, ts', rl2.sub, o1, e5, ?_⟩
                intro v H' h' F' G st sub ow' ov' dj' fr'
                obtain ⟨o3, dj3⟩ := st.ownR o2 fun a z z' => dj a z' z
                obtain ⟨F3, o4, s4⟩ := o3.backTo ow' w2 o3.length fun a z z' => dj3 a z' z
                have stAll : Stp F2 h2 H2 F3 h' H' := by
                  refine ⟨fun a o e n => st.keep a o e fun z => n (s1 a z), st.up, fun a o n e => (st.new a o n e).imp (s1 a) id, fun a z => ?_⟩
                  rcases s4 a z with y | y
                  · exact .inl (s2 a y)
                  · exact (st.fp a y).imp (s1 a) id
                refine k v H' h' F3 G ((st1.trans st2).trans stAll) ⟨sub, o4, fun i s e => ?_, rl2.len⟩ ov' (fun a z z' => ?_) (fun a z => ?_) fun hq => ?_
                · obtain ⟨u, u1, u2⟩ := rl2.slt i s e
                  exact ⟨u, u1, u2.mono st.up⟩
                · rcases s4 a z' with y | y
                  · rcases fr' a z with w | w
                    · exact dj a w y
                    · obtain ⟨_, o, e⟩ := o2.at a y
                      rw [w] at e
                      cases e
                  · exact dj' a z y
                · rcases fr' a z with y | y
                  · rcases (st1.trans st2).fp a (s1 a y) with w | w
                    · exact .inl w
                    · exact .inr w
                  · exact (st1.trans st2).back a y
                · unfold E.q at hq
                  rw [Bool.and_eq_true] at hq
                  obtain ⟨a1, a2⟩ := q1 hq.1
                  obtain ⟨b1, b2⟩ := q2 hq.2
                  have hp : ∀ {pm : List Nat} {ys : List (D ⊕ Nat)}, Mi.perm (as ++ bs) pm = some ys → ∀ x ∈ ys, ∃ d, x = .inl d := by
                    intro pm
                    induction pm with
                    | nil =>
                      intro ys e x hx
                      cases e
                      cases hx
                    | cons i pm ih =>
                      intro ys e x hx
                      unfold Mi.perm at e
                      split at e
                      · rename_i x0 r0 z1 z2
                        cases e
                        rcases List.mem_cons.mp hx with rfl | hx
                        · have := List.mem_of_getElem? z1
                          rcases List.mem_append.mp this with z | z
                          · exact a2 _ z
                          · exact b2 _ z
                        · exact ih z2 x hx
                      · cases e
                  have ef := al (hp e3)
                  subst ef
                  exact (a1.trans b1).trans fun a o e => st.keep a o e (by simp)
              · cases hv
        · cases hv

/-! ### the last item -/
theorem Owns.snoc : ∀ {vs : List V} {ts : List T} {F : List Addr} {t : T}, Owns K C h H vs ts F → ts.getLast? = some t →
    ∃ v F1 G, vs[vs.length - 1]? = some v ∧ Owns K C h H vs.dropLast ts.dropLast F1 ∧ Own K C h H v t G ∧ (∀ a, a ∈ F1 → a ∈ F) ∧ (∀ a, a ∈ G → a ∈ F) ∧ ∀ a, a ∈ G → a ∉ F1
  | _, _, _, _, .nil, e => by cases e
  | _, _, _, t, .cons (v := v) (F := F) (G := G) p r dj, e => by
    cases r with
    | nil =>
      cases e
      exact ⟨_, [], F, rfl, .nil, p, fun a z => absurd z (by simp), fun a z => List.mem_append_left _ z, fun a z => by simp⟩
    | cons p2 r2 d2 =>
    obtain ⟨w, F1, G1, e1, o1, o2, s1, s2, s3⟩ := Owns.snoc (.cons p2 r2 d2) (t := t) (by simpa [List.getLast?_cons] using e)
    refine ⟨w, F ++ F1, G1, by simpa using e1, .cons p o1 fun a z z' => dj a z (s1 a z'), o2, fun a z => ?_, fun a z => List.mem_append_right _ (s2 a z), fun a z z' => ?_⟩
    · exact (List.mem_append.mp z).elim (fun z => List.mem_append_left _ z) fun z => List.mem_append_right _ (s1 a z)
    · rcases List.mem_append.mp z' with y | y
      · exact dj a y (s2 a z)
      · exact s3 a z y
end
end Mi
/-! MiLc: targets; a comprehension's turns. -/
namespace Mi
open PySem PySem.Spec PyProof.Rows L2
section
variable {Y : Fx} {K : PySem.W.Frag} {C : Nat → Addr} {h H h' H' : Hp}
theorem assign_each {e : Expr} {es : List Expr} {env : Env} (n : noStar e = true) : assignEach (e :: es) env = (false, assign e env) :: assignEach es env := by
  cases e <;> first | rfl | cases n
theorem assign_all {env : Env} : ∀ {es : List Expr}, es.all noStar = true → (assignEach es env).length = es.length ∧ (assignEach es env).findIdx? (·.1) = none
  | [], _ => ⟨rfl, rfl⟩
  | e :: es, n => by
    rw [List.all_cons, Bool.and_eq_true] at n
    obtain ⟨h1, h2⟩ := assign_all (env := env) n.2
    rw [assign_each n.1]
    refine ⟨congrArg (· + 1) h1, ?_⟩
    rw [List.findIdx?_cons, if_neg Bool.false_ne_true, h2]
    rfl
def RG (Y : Fx) (tg : Tg) (g : TG) : Prop := ∀ σ H h sl rt vs F v d sl', Rel Y.K Y.C σ H h sl rt vs F → Rep Y.K Y.C h v d → bind sl tg d = some sl' → ∀ Q : L2.St → Hp → Prop,
  (∀ σ', Rel Y.K Y.C σ' H h sl' rt vs F → (∀ own, (∀ i, i ∈ tg.slots → i ∈ own) → wipe σ' own = wipe σ own) → Q σ' H) → g v σ H Q
def RGs (Y : Fx) (tg : List Tg) (g : TGs) : Prop := ∀ σ H h sl rt vs F ws ds sl', Rel Y.K Y.C σ H h sl rt vs F → Reps Y.K Y.C h ws ds → binds sl tg ds = some sl' → ∀ Q : L2.St → Hp → Prop,
  (∀ σ', Rel Y.K Y.C σ' H h sl' rt vs F → (∀ own, (∀ i, i ∈ Tg.slots.slotss tg → i ∈ own) → wipe σ' own = wipe σ own) → Q σ' H) → g ws σ H Q
theorem wipe_set {σ : L2.St} {i : Nat} {o : Option V} : ∀ {own : List Nat}, i ∈ own → wipe (σ.set i o) own = wipe σ own
  | j :: r, m => by
    show (wipe (σ.set i o) r).set j none = (wipe σ r).set j none
    by_cases hm : i ∈ r
    · rw [wipe_set hm]
    · have e : i = j := (List.mem_cons.mp m).resolve_right hm
      subst e
      have f : ∀ r : List Nat, i ∉ r → wipe (σ.set i o) r = (wipe σ r).set i o := by
        intro r
        induction r with
        | nil => intro _; rfl
        | cons k r ih =>
          intro n
          have n1 : i ≠ k := fun z => n (by rw [z]; exact List.mem_cons_self)
          show (wipe (σ.set i o) r).set k none = ((wipe σ r).set k none).set i o
          rw [ih fun z => n (List.mem_cons_of_mem _ z), List.set_comm _ _ n1]
      rw [f r hm, List.set_set]
theorem wipe_wipe {σ : L2.St} {own : List Nat} : wipe (wipe σ own) own = wipe σ own := by
  have f : ∀ r : List Nat, (∀ i ∈ r, i ∈ own) → wipe (wipe σ r) own = wipe σ own := by
    intro r
    induction r with
    | nil => intro _; rfl
    | cons k r ih =>
      intro m
      show wipe ((wipe σ r).set k none) own = _
      rw [wipe_set (m k List.mem_cons_self)]
      exact ih fun i z => m i (List.mem_cons_of_mem _ z)
  exact f own fun _ z => z
theorem wip_some {sl : Sl} {i : Nat} {s : S} : ∀ {vs : List Nat}, (wip sl vs)[i]? = some (some s) → sl[i]? = some (some s) ∧ i ∉ vs
  | [], e => ⟨e, by simp⟩
  | v :: vs, e => by
    have e : ((wip sl vs).set v none)[i]? = some (some s) := e
    rw [List.getElem?_set] at e
    by_cases z : v = i
    · rw [if_pos z] at e
      split at e <;> cases e
    · rw [if_neg z] at e
      obtain ⟨e1, e2⟩ := wip_some e
      exact ⟨e1, by simp only [List.mem_cons, not_or]; exact ⟨fun y => z y.symm, e2⟩⟩
theorem wip_length {sl : Sl} : ∀ {vs : List Nat}, (wip sl vs).length = sl.length
  | [] => rfl
  | v :: vs => by
    show ((wip sl vs).set v none).length = _
    rw [List.length_set, wip_length]
theorem Rel.wip {σ : L2.St} {sl : Sl} {rt : Rt} {vs : List V} {F : List Addr} (r : Rel K C σ H h sl rt vs F) (own : List Nat) : Rel K C (wipe σ own) H h (wip sl own) rt vs F := by
  refine ⟨r.sub, r.own, fun i s e => ?_, by rw [wipe_length, wip_length]; exact r.len⟩
  obtain ⟨e1, e2⟩ := wip_some e
  obtain ⟨v, v1, v2⟩ := r.slt i s e1
  exact ⟨v, by rw [wipe_out e2]; exact v1, v2⟩
theorem Rel.set {σ : L2.St} {sl : Sl} {rt : Rt} {vs : List V} {F : List Addr} {i : Nat} {v : V} {s : S} (r : Rel K C σ H h sl rt vs F) (hs : SRep K C h vs v s) (hi : i < sl.length) : Rel K C (σ.set i (some v)) H h (sl.set i (some s)) rt vs F := by
  refine ⟨r.sub, r.own, fun j s' e => ?_, by rw [List.length_set, List.length_set]; exact r.len⟩
  rw [List.getElem?_set] at e ⊢
  by_cases z : i = j
  · rw [if_pos z] at e ⊢
    rw [if_pos hi] at e
    cases e
    exact ⟨v, by rw [r.len, if_pos hi], hs⟩
  · rw [if_neg z] at e ⊢
    exact r.slt j s' e
mutual
theorem sndTg : ∀ (tg : Tg) (c : Ck) (a : Expr), okT c tg a = true → ∃ g, (∀ X, Gd Y c X → PG X a g) ∧ RG Y tg g
  | .var i, c, a, ok => by
    unfold okT at ok
    split at ok
    · rename_i x pos
      simp only [Bool.and_eq_true, decide_eq_true_eq] at ok
      refine ⟨gName i, fun X g => ?_, fun σ H h sl rt vs F v d sl' r rp e Q k => ?_⟩
      · have hl : X.env.scope.names.lookup x = c.sc.names.lookup x := by rw [g.sc]
        have ok2 := ok.2
        split at ok2
        · rename_i e
          exact pg_name (by rw [g.N]; exact g.nd) (by rw [g.N]; exact ok.1) (.inl (hl.trans e)) (.inr (hl.trans e))
        · rename_i e
          exact pg_name (by rw [g.N]; exact g.nd) (by rw [g.N]; exact ok.1) (.inr (hl.trans e)) (.inl (g.fn x ok2))
        · cases ok2
      · unfold Mi.bind at e
        split at e
        · rename_i hi
          cases e
          exact k _ (r.set (s := .v d) rp hi) fun own m => wipe_set (m i (List.mem_singleton.mpr rfl))
        · cases e
    · cases ok
  | .tup ts, c, a, ok => by
    unfold okT at ok
    split at ok
    · rename_i es kk pos
      obtain ⟨g, pg, rg, st, ln⟩ := sndTgs ts c es ok
      refine ⟨gTup Y.K es.length g, fun X gd => ?_, fun σ H h sl rt vs F v d sl' r rp e Q k => ?_⟩
      · have z := pg_tup (k := kk) (pos := pos) (n := es.length) gd.calm (pg X gd) (assign_all st).1 (assign_all st).2
        rw [gd.K] at z
        exact z
      · unfold Mi.bind at e
        split at e
        · rename_i xs
          cases rp with
          | tup q rr =>
            have hl : xs.length = es.length := by rw [← ln]; exact (binds_len e).symm
            exact ⟨_, _, rfl, sqT_same r.sub q, rr.length.trans hl, rg σ H h sl rt vs F _ _ sl' r rr e Q k⟩
        · cases e
    · cases ok
theorem sndTgs : ∀ (tg : List Tg) (c : Ck) (es : List Expr), okTs c tg es = true → ∃ g, (∀ X, Gd Y c X → PGs X es g) ∧ RGs Y tg g ∧ es.all noStar = true ∧ tg.length = es.length
  | [], c, [], ok => by
    refine ⟨gNil, fun X g => pgs_nil, fun σ H h sl rt vs F ws ds sl' r rp e Q k => ?_, rfl, rfl⟩
    cases rp with
    | nil =>
      unfold binds at e
      cases e
      exact ⟨rfl, k σ r fun _ _ => rfl⟩
    | cons _ _ => cases e
  | t :: ts, c, e0 :: es, ok => by
    unfold okTs at ok
    simp only [Bool.and_eq_true] at ok
    obtain ⟨g1, p1, r1⟩ := sndTg t c e0 ok.1.2
    obtain ⟨g2, p2, r2, st, ln⟩ := sndTgs ts c es ok.2
    refine ⟨gCons g1 g2, fun X g => pgs_cons (p1 X g) (p2 X g) (by rw [assign_each ok.1.1]; rfl), fun σ H h sl rt vs F ws ds sl' r rp e Q k => ?_, by rw [List.all_cons, ok.1.1, st]; rfl, congrArg (· + 1) ln⟩
    cases rp with
    | nil => cases e
    | cons a rp =>
      unfold binds at e
      split at e
      · rename_i sl1 e1
        refine ⟨_, _, rfl, r1 σ H h sl rt vs F _ _ sl1 r a e1 _ fun σ1 rl1 w1 => ?_⟩
        refine r2 σ1 H h sl1 rt vs F _ _ sl' rl1 rp e _ fun σ2 rl2 w2 => k σ2 rl2 fun own m => ?_
        rw [w2 own fun i z => m i (List.mem_append_right _ z), w1 own fun i z => m i (List.mem_append_left _ z)]
      · cases e
  | [], c, _ :: _, ok => by cases ok
  | _ :: _, c, [], ok => by cases ok
theorem binds_len : ∀ {tg : List Tg} {xs : List D} {sl sl' : Sl}, binds sl tg xs = some sl' → tg.length = xs.length
  | [], [], _, _, _ => rfl
  | _ :: _, [], _, _, e => by cases e
  | [], _ :: _, _, _, e => by cases e
  | t :: ts, x :: xs, sl, sl', e => by
    unfold binds at e
    split at e
    · exact congrArg (· + 1) (binds_len e)
    · cases e
end

/-! ### what stands beside the roots through a step -/
theorem Stp.out {F F' : List Addr} {L : Addr} {o : HO} (x : Stp F h H F' h' H') (e : H L = some o) (n : L ∉ F) (q : h L = none) : H' L = some o ∧ L ∉ F' ∧ h' L = none := by
  refine ⟨x.keep L o e n, fun z => ?_, ?_⟩
  · rcases x.fp L z with y | y
    · exact n y
    · rw [y] at e; cases e
  · cases w : h' L with
    | none => rfl
    | some u =>
      rcases x.new L u q w with y | y
      · exact absurd y n
      · rw [y] at e; cases e
theorem Stp.updL {F F' : List Addr} {L : Addr} {o : HO} (x : Stp F h H F' h' H') (n : H L = none) : Stp F h H F' h' (upd H' L o) := by
  refine ⟨fun a u e z => ?_, x.up, x.new, x.fp⟩
  rw [upd_ne (ne_of_none e n)]
  exact x.keep a u e z
theorem Owns.append1 : ∀ {vs : List V} {ts : List T} {F G : List Addr} {v : V} {t : T}, Owns K C h H vs ts F → Own K C h H v t G → (∀ a, a ∈ G → a ∉ F) → ∃ F', Owns K C h H (vs ++ [v]) (ts ++ [t]) F' ∧ ∀ a, a ∈ F' → a ∈ F ∨ a ∈ G
  | _, _, _, G, _, _, .nil, o, _ => ⟨G ++ [], .cons o .nil (fun a z => by simp), fun a z => .inr (by simpa using z)⟩
  | _, _, _, G, _, _, .cons (F := F0) (G := G0) p r dj, o, d => by
    obtain ⟨F', o', s⟩ := Owns.append1 r o fun a z z' => d a z (List.mem_append_right _ z')
    refine ⟨F0 ++ F', .cons p o' fun a z z' => ?_, fun a z => ?_⟩
    · rcases s a z' with y | y
      · exact dj a z y
      · exact d a y (List.mem_append_left _ z)
    · rcases List.mem_append.mp z with z | z
      · exact .inl (List.mem_append_left _ z)
      · exact (s a z).imp (fun z => List.mem_append_right _ z) id

def del (H : Hp) (L : Addr) : Hp := fun a => if a = L then none else H a
theorem del_sub {L : Addr} : Same (del H L) H := fun a o e => by
  unfold del at e
  split at e
  · cases e
  · exact e
theorem del_of {L : Addr} (s : Same h H) (n : h L = none) : Same h (del H L) := fun a o e => by
  unfold del
  rw [if_neg (ne_of_none e n)]
  exact s a o e
theorem del_to {L : Addr} (s : ∀ a o, a ≠ L → H a = some o → H' a = some o) : Same (del H L) (del H' L) := fun a o e => by
  unfold del at e ⊢
  split at e
  · cases e
  · rename_i n
    rw [if_neg n]
    exact s a o n e
theorem read_lc {own : List Nat} {tg : Tg} {it : It} {cond elt : E} {wi : TI} {g : TG} {tt : TT} {te : TE} (ri : RI Y it wi) (rg : RG Y tg g) (rc : RT Y cond tt) (re : RE Y elt te) (hs : ∀ i, i ∈ tg.slots → i ∈ own)
    (hq : it.clo = true ∨ (cond.q && elt.q) = true) : RE Y (.lc own tg it cond elt) (tLc wi g tt te own) := by
  intro np mv sl σ H h rt vs F tr rt' rl hv Q k
  unfold ev at hv
  split at hv
  · cases hv
  · rename_i xs rt1 e1
    split at hv
    · rename_i ts rt2 e2
      cases hv
      refine ri np sl σ H h rt vs F xs rt1 rl e1 _ fun J H1 h1 F1 S st1 rl1 wk s1 clo q1 => ?_
      intro L hL
      let P : Nat → Hp → Prop := fun i H' => ∃ h' F' accV accT G rti, Stp F1 h1 H1 F' h' H' ∧ Rel Y.K Y.C (wipe σ own) H' h' (Mi.wip sl own) rti vs F' ∧ S h' (del H' L) ∧ H' L = some (.lst accV) ∧ h' L = none ∧ L ∉ F' ∧ Owns Y.K Y.C h' H' accV accT G ∧ L ∉ G ∧
        (∀ a, a ∈ G → a ∉ F') ∧ (∀ a, a ∈ G → a ∈ F1 ∨ H1 a = none) ∧
        lcGo (fun x => bind (Mi.wip sl own) tg x) (fun sl rt => tstOf (ev (cfg Y np) false sl cond rt)) (fun sl rt => ev (cfg Y np) false sl elt rt) (xs.drop i) accT rti = some (ts, rt') ∧ ((cond.q && elt.q) = true → Same H1 H')
      refine ⟨fun i m H' => m = xs.length - i ∧ i ≤ xs.length ∧ P i H', ⟨xs.length, by simp, Nat.zero_le _, ?_⟩, ?_⟩
      · have g0 : Grew h1 H1 h1 (upd H1 L (.lst [])) := upd_grew0 rl1.sub hL
        refine ⟨h1, F1, [], [], [], rt1, g0.stp, (g0.rel rl1).wip own, wk.up h1 H1 h1 _ s1 (Same.refl _) (del_of g0.sub (rl1.sub.free hL)) (fun a o e => del_of g0.big hL a o e), upd_same, rl1.sub.free hL, fun z => ?_, .nil, by simp, fun a z => absurd z (by simp), fun a z => absurd z (by simp), e2, fun _ => g0.big⟩
        obtain ⟨_, o, e⟩ := rl1.own.at L z
        rw [hL] at e
        cases e
      · rintro i m H2 ⟨rfl, hi, h2, F2, accV, accT, G, rti, st2, rl2, sd, eL, nL, LF, ow, LG, dj, fr, go, qq⟩
        have s2 : S h2 H2 := wk.up h2 (del H2 L) h2 H2 sd (Same.refl _) rl2.sub del_sub
        by_cases hlt : i < xs.length
        · right
          refine ⟨wk.go i h2 H2 s2 rl2.sub hlt, P (i + 1), fun H' p => ⟨xs.length - (i + 1), by omega, rfl, hlt, p⟩, fun x H3 hy => ?_⟩
          obtain ⟨d, h3, d1, g3, d2⟩ := wk.yl i h2 H2 x H3 s2 rl2.sub hy hlt
          have rl3 := g3.rel rl2
          have hd : xs.drop i = d :: xs.drop (i + 1) := by
            obtain ⟨hh, he⟩ := List.getElem?_eq_some_iff.mp d1
            rw [List.drop_eq_getElem_cons hh, he]
          rw [hd] at go
          unfold lcGo at go
          split at go
          · cases go
          · rename_i sl4 e4
            refine rg (wipe σ own) H3 h3 _ rti vs F2 x d sl4 rl3 d2 e4 _ fun σ4 rl4 w4 => ?_
            refine ⟨by rw [w4 own hs]; exact wipe_wipe, ?_⟩
            split at go
            · cases go
            · -- the test fails
              rename_i rt5 e5
              refine rc np sl4 σ4 H3 h3 rti vs F2 false rt5 rl4 e5 _ fun H5 h5 F5 st5 rl5 q5 => ?_
              have o3 := g3.stp (F := F2).out eL LF nL
              have o5 := st5.out o3.1 o3.2.1 o3.2.2
              obtain ⟨ow3, dj3⟩ := g3.stp (F := F2).owns ow dj
              obtain ⟨ow5, dj5⟩ := st5.owns ow3 dj3
              have up5 : Same h2 h5 := g3.sml.trans st5.up
              refine ⟨h5, F5, accV, accT, G, rt5, (st2.trans g3.stp).trans st5, ⟨rl5.sub, rl5.own, fun j s e => ?_, rl2.len⟩, ?_, o5.1, o5.2.2, o5.2.1, ow5, LG, dj5, fr, go, fun z => ?_⟩
              · obtain ⟨v, v1, v2⟩ := rl2.slt j s e
                exact ⟨v, v1, v2.mono up5⟩
              · rcases hq with z | z
                · exact clo z h2 (del H2 L) h5 (del H5 L) sd up5 (del_of rl5.sub o5.2.2)
                · rw [Bool.and_eq_true] at z
                  exact wk.up h2 (del H2 L) h5 (del H5 L) sd up5 (del_of rl5.sub o5.2.2) (del_to fun a o _ e => q5 z.1 a o (g3.big a o e))
              · have z' := z
                rw [Bool.and_eq_true] at z'
                exact ((qq z).trans g3.big).trans (q5 z'.1)
            · -- it holds
              rename_i rt5 e5
              refine rc np sl4 σ4 H3 h3 rti vs F2 true rt5 rl4 e5 _ fun H5 h5 F5 st5 rl5 q5 => ?_
              have o3 := g3.stp (F := F2).out eL LF nL
              have o5 := st5.out o3.1 o3.2.1 o3.2.2
              obtain ⟨ow3, dj3⟩ := g3.stp (F := F2).owns ow dj
              obtain ⟨ow5, dj5⟩ := st5.owns ow3 dj3
              split at go
              · cases go
              · rename_i t rt6 e6
                split at go
                · rename_i hz
                  refine re np false sl4 σ4 H5 h5 rt5 vs F5 t rt6 rl5 e6 _ fun v H6 h6 F6 G6 st6 rl6 ow6 dj6 fr6 q6 => ?_
                  have o6 := st6.out o5.1 o5.2.1 o5.2.2
                  obtain ⟨ow6', dj6'⟩ := st6.owns ow5 dj5
                  refine ⟨accV, o6.1, by rw [ow.length]; exact hz, ?_⟩
                  have stA : Stp F1 h1 H1 F6 h6 H6 := ((st2.trans g3.stp).trans st5).trans st6
                  have LG6 : L ∉ G6 := fun z => by
                    rcases fr6 L z with y | y
                    · exact o5.2.1 y
                    · rw [o5.1] at y; cases y
                  have up6 : Same h2 h6 := (g3.sml.trans st5.up).trans st6.up
                  have ne : ∀ a, a ≠ L → (upd H6 L (.lst (accV ++ [v]))) a = H6 a := fun a z => upd_ne z
                  have sub7 : Same h6 (upd H6 L (.lst (accV ++ [v]))) := fun a o e => by
                    rw [ne a fun z => by rw [z, o6.2.2] at e; cases e]
                    exact rl6.sub a o e
                  obtain ⟨F7, ow7, s7⟩ := ow6'.append1 ow6 fun a z z' => by
                    rcases fr6 a z with y | y
                    · exact dj5 a z' y
                    · obtain ⟨_, o, e⟩ := ow5.at a z'
                      rw [y] at e; cases e
                  have LF7 : L ∉ F7 := fun z => (s7 L z).elim LG LG6
                  refine ⟨h6, F6, accV ++ [v], accT ++ [t], F7, rt6, stA.updL hL, ⟨sub7, ?_, fun j s e => ?_, rl2.len⟩, ?_, upd_same, o6.2.2, o6.2.1, ?_, LF7, fun a z => ?_, fun a z => ?_, go, fun z => ?_⟩
                  · exact rl6.own.stay (Same.refl _) fun a z => ⟨ne a fun y => o6.2.1 (y ▸ z), (rl6.own.at a z).1⟩
                  · obtain ⟨v, v1, v2⟩ := rl2.slt j s e
                    exact ⟨v, v1, v2.mono up6⟩
                  · rcases hq with z | z
                    · exact clo z h2 (del H2 L) h6 _ sd up6 (del_of sub7 o6.2.2)
                    · rw [Bool.and_eq_true] at z
                      exact wk.up h2 (del H2 L) h6 _ sd up6 (del_of sub7 o6.2.2) (del_to fun a o n e => (ne a n).trans (q6 z.2 a o (q5 z.1 a o (g3.big a o e))))
                  · exact ow7.stay (Same.refl _) fun a z => ⟨ne a fun y => LF7 (y ▸ z), (ow7.at a z).1⟩
                  · exact (s7 a z).elim (dj6' a) (dj6 a)
                  · rcases s7 a z with y | y
                    · exact fr a y
                    · rcases fr6 a y with y | y
                      · rcases ((st2.trans g3.stp).trans st5).fp a y with w | w
                        · exact .inl w
                        · exact .inr w
                      · exact ((st2.trans g3.stp).trans st5).back a y
                  · have z' := z
                    rw [Bool.and_eq_true] at z'
                    intro a o e
                    rw [ne a (ne_of_none e hL)]
                    exact q6 z'.2 a o (q5 z'.1 a o (g3.big a o (qq z a o e)))
                · cases go
        · left
          have e : i = xs.length := by omega
          subst e
          rw [List.drop_length] at go
          unfold lcGo at go
          cases go
          refine ⟨wk.stop h2 H2 s2 rl2.sub, ?_⟩
          refine k (.ref L) H2 h2 F2 (L :: G) (st1.trans st2) ⟨rl2.sub, rl2.own, fun j s e => ?_, rl1.len⟩ (.ls eL nL ow LG) (fun a z => ?_) (fun a z => ?_) fun z => ?_
          · obtain ⟨v, v1, v2⟩ := rl1.slt j s e
            exact ⟨v, v1, v2.mono st2.up⟩
          · rcases List.mem_cons.mp z with rfl | z
            · exact LF
            · exact dj a z
          · rcases List.mem_cons.mp z with rfl | z
            · exact st1.back _ hL
            · rcases fr a z with y | y
              · rcases st1.fp a y with w | w
                · exact .inl w
                · exact .inr w
              · exact st1.back a y
          · unfold E.q at z
            simp only [Bool.and_eq_true] at z
            exact (q1 z.1.1).trans (qq (by rw [z.1.2, z.2]; rfl))
    · cases hv
end
end Mi
/-! MiEv: the walks' answers, operation by operation. -/
namespace Mi
open PySem PySem.Spec PyProof.Rows L2
section
variable {Y : Fx} {σ : L2.St} {H h H1 h1 : Hp} {sl : Sl} {rt rt1 rt2 rt' : Rt} {vs : List V} {F G1 : List Addr} {a b : E} {ta tb : TE} {tA tB' : TT}
theorem ROk.thn {q qa qb : Bool} {Q : VK} {t : T} (k : ROk Y σ H h sl rt' vs F q Q t) (st : Stp F h H G1 h1 H1) (s : qa = true → Same H H1) (hq : q = true → qa = true ∧ qb = true) : ROk Y σ H1 h1 sl rt' vs G1 qb Q t :=
  fun v H' h' F' G st2 rl ow dj fr qq => k v H' h' F' G (st.trans st2) rl ow dj (fun a z => (fr a z).elim (st.fp a) (st.back a)) fun z => (s (hq z).1).trans (qq (hq z).2)
theorem BOk.thn {q qa qb : Bool} {Q : Bool → Hp → Prop} {t : Bool} (k : BOk Y σ H h sl rt' vs F q Q t) (st : Stp F h H G1 h1 H1) (s : qa = true → Same H H1) (hq : q = true → qa = true ∧ qb = true) : BOk Y σ H1 h1 sl rt' vs G1 qb Q t :=
  fun H' h' F' st2 rl qq => k H' h' F' (st.trans st2) rl fun z => (s (hq z).1).trans (qq (hq z).2)
theorem and_tt {x y : Bool} (h : (x && y) = true) : x = true ∧ y = true := by rwa [Bool.and_eq_true] at h
theorem tst_eq {o : Option (T × Rt)} {b : Bool} (e : tstOf o = some (b, rt')) : o = some (.cl (.bl b), rt') := by
  unfold tstOf at e
  split at e
  · cases e; rfl
  · cases e
theorem ROk.bl {q qa : Bool} {Q : VK} {c : Bool} (k : ROk Y σ H h sl rt' vs F q Q (.cl (.bl c))) (st : Stp F h H G1 h1 H1) (rl : Rel Y.K Y.C σ H1 h1 sl rt' vs G1) (s : q = true → Same H H1) : Q (.bl c) H1 :=
  k.val st rl s (fun z => z) (.bl c)
theorem re_c {e : E} {d : D} {v : V} (hh : ∀ np mv sl rt, ev (cfg Y np) mv sl e rt = some (.cl d, rt)) (rp : ∀ h, Rep Y.K Y.C h v d) : RE Y e (tC v) := by
  intro np mv sl σ H h rt vs F tr rt' rl hv Q k
  rw [hh] at hv
  cases hv
  exact k.val (q1 := true) Stp.refl rl (fun _ => Same.refl H) (fun _ => rfl) (rp h)
theorem rt_of {e : E} {t : TE} (re : RE Y e t) : RT Y e (tB t) := by
  intro np sl σ H h rt vs F b rt' rl hv Q k
  refine re np false sl σ H h rt vs F _ _ rl (tst_eq hv) _ fun v H' h' F' G st rl' ow dj fr qq => ?_
  have rp := rep_d ow
  cases rp
  exact ⟨b, rfl, k H' h' F' st rl' qq⟩
theorem two (ra : RE Y a ta) (rb : RE Y b tb) {np : Nat} {x y : T} {R : V → V → Hp → Prop} (rl : Rel Y.K Y.C σ H h sl rt vs F) (e1 : ev (cfg Y np) false sl a rt = some (x, rt1)) (e2 : ev (cfg Y np) false sl b rt1 = some (y, rt2))
    (k : ∀ v w H2 h2 F2, Stp F h H F2 h2 H2 → Rel Y.K Y.C σ H2 h2 sl rt2 vs F2 → Rep Y.K Y.C h2 v x.d → Rep Y.K Y.C h2 w y.d → ((a.q && b.q) = true → Same H H2) → R v w H2) : ta σ H fun v H1 => tb σ H1 fun w H2 => R v w H2 := by
  refine ra.d rl e1 fun v H1 h1 F1 st1 rl1 r1 q1 => ?_
  refine rb.d rl1 e2 fun w H2 h2 F2 st2 rl2 r2 q2 => ?_
  exact k v w H2 h2 F2 (st1.trans st2) rl2 (r1.mono st2.up) r2 fun z => (q1 (and_tt z).1).trans (q2 (and_tt z).2)
theorem re_bin {op : BOp} (ra : RE Y a ta) (rb : RE Y b tb) : RE Y (.bin op a b) (tOp (rB Y.K Y.C op) ta tb) := by
  intro np mv sl σ H h rt vs F tr rt' rl hv Q k
  unfold ev at hv
  split at hv
  · cases hv
  · rename_i x rt1 e1
    split at hv
    · cases hv
    · rename_i y rt2 e2
      obtain ⟨t, e3, e4⟩ := Option.map_eq_some_iff.mp hv
      cases e4
      exact two ra rb rl e1 e2 fun v w H2 h2 F2 st rl2 r1 r2 s => ⟨h2, x.d, y.d, _, rl2.sub, r1, r2, e3, k.made st rl2 s fun z => z⟩
theorem re_cmp {op : COp} (ra : RE Y a ta) (rb : RE Y b tb) : RE Y (.cmp op a b) (tOp (rC Y.K Y.C op) ta tb) := by
  intro np mv sl σ H h rt vs F tr rt' rl hv Q k
  unfold ev at hv
  split at hv
  · cases hv
  · rename_i x rt1 e1
    split at hv
    · cases hv
    · rename_i y rt2 e2
      obtain ⟨t, e3, e4⟩ := Option.map_eq_some_iff.mp hv
      cases e4
      exact two ra rb rl e1 e2 fun v w H2 h2 F2 st rl2 r1 r2 s => ⟨h2, x.d, y.d, _, rl2.sub, r1, r2, e3, k.val st rl2 s (fun z => z) (.bl _)⟩
theorem re_ix (ra : RE Y a ta) (rb : RE Y b tb) : RE Y (.ix a b) (tOp (rIxA Y.K Y.C) ta tb) := by
  intro np mv sl σ H h rt vs F tr rt' rl hv Q k
  unfold ev at hv
  split at hv
  · cases hv
  · rename_i x rt1 e1
    split at hv
    · cases hv
    · rename_i y rt2 e2
      obtain ⟨t, e3, e4⟩ := Option.map_eq_some_iff.mp hv
      cases e4
      exact two ra rb rl e1 e2 fun v w H2 h2 F2 st rl2 r1 r2 s => ⟨h2, x.d, y.d, _, rl2.sub, r1, r2, e3, fun z rz => k.val st rl2 s (fun z => z) rz⟩
theorem re_f2 {f : Mi.F2} (ra : RE Y a ta) (rb : RE Y b tb) : RE Y (.f2 f a b) (tCB (rF2 Y.K Y.C f) (tCons ta (tCons tb tNil))) := by
  intro np mv sl σ H h rt vs F tr rt' rl hv Q k
  unfold ev at hv
  split at hv
  · cases hv
  · rename_i x rt1 e1
    split at hv
    · cases hv
    · rename_i y rt2 e2
      obtain ⟨t, e3, e4⟩ := Option.map_eq_some_iff.mp hv
      cases e4
      exact two ra rb rl e1 e2 fun v w H2 h2 F2 st rl2 r1 r2 s => ⟨h2, v, x.d, w, y.d, _, rfl, rl2.sub, r1, r2, e3, k.made st rl2 s fun z => z⟩
theorem re_neg (ra : RE Y a ta) : RE Y (.neg a) (tUn (rU fun i => .int (-i)) ta) := by
  intro np mv sl σ H h rt vs F tr rt' rl hv Q k
  unfold ev at hv
  split at hv
  · rename_i i rt1 e1
    cases hv
    refine ra.d rl e1 fun v H1 h1 F1 st1 rl1 r1 q1 => ?_
    cases r1
    exact ⟨i, rfl, k.val st1 rl1 q1 (fun z => z) (.int _)⟩
  · cases hv
theorem re_not (ra : RE Y a ta) : RE Y (.not a) (tNotV ta) := by
  intro np mv sl σ H h rt vs F tr rt' rl hv Q k
  unfold ev at hv
  split at hv
  · rename_i i rt1 e1
    cases hv
    refine ra.d rl e1 fun v H1 h1 F1 st1 rl1 r1 q1 => ?_
    cases r1
    exact ⟨i, rfl, k.val st1 rl1 q1 (fun z => z) (.bl _)⟩
  · cases hv
theorem rt_not (ra : RT Y a tA) : RT Y (.not a) (tNot tA) := by
  intro np sl σ H h rt vs F bb rt' rl hv Q k
  have hv := tst_eq hv
  unfold ev at hv
  split at hv
  · rename_i i rt1 e1
    cases hv
    exact ra np sl σ H h rt vs F i _ rl (by rw [e1]; rfl) _ fun H1 h1 F1 st1 rl1 q1 => k H1 h1 F1 st1 rl1 q1
  · cases hv
theorem re_and (ra : RE Y a ta) (rb : RE Y b tb) : RE Y (.and a b) (tAndV ta tb) := by
  intro np mv sl σ H h rt vs F tr rt' rl hv Q k
  unfold ev at hv
  split at hv
  · rename_i rt1 e1
    refine ra.d rl e1 fun v H1 h1 F1 st1 rl1 r1 q1 => ?_
    cases r1
    refine ⟨true, rfl, ?_⟩
    rw [if_pos rfl]
    exact rb np false sl σ H1 h1 rt1 vs F1 _ _ rl1 hv Q (k.thn st1 q1 and_tt)
  · rename_i rt1 e1
    cases hv
    refine ra.d rl e1 fun v H1 h1 F1 st1 rl1 r1 q1 => ?_
    cases r1
    refine ⟨false, rfl, ?_⟩
    rw [if_neg Bool.false_ne_true]
    exact k.bl (qa := true) st1 rl1 fun z => q1 (and_tt z).1
  · cases hv
theorem re_or (ra : RE Y a ta) (rb : RE Y b tb) : RE Y (.or a b) (tOrV ta tb) := by
  intro np mv sl σ H h rt vs F tr rt' rl hv Q k
  unfold ev at hv
  split at hv
  · rename_i rt1 e1
    cases hv
    refine ra.d rl e1 fun v H1 h1 F1 st1 rl1 r1 q1 => ?_
    cases r1
    refine ⟨true, rfl, ?_⟩
    rw [if_pos rfl]
    exact k.bl (qa := true) st1 rl1 fun z => q1 (and_tt z).1
  · rename_i rt1 e1
    refine ra.d rl e1 fun v H1 h1 F1 st1 rl1 r1 q1 => ?_
    cases r1
    refine ⟨false, rfl, ?_⟩
    rw [if_neg Bool.false_ne_true]
    exact rb np false sl σ H1 h1 rt1 vs F1 _ _ rl1 hv Q (k.thn st1 q1 and_tt)
  · cases hv
theorem rt_and (ra : RT Y a tA) (rb : RT Y b tB') : RT Y (.and a b) (tAnd tA tB') := by
  intro np sl σ H h rt vs F bb rt' rl hv Q k
  have hv := tst_eq hv
  unfold ev at hv
  split at hv
  · rename_i rt1 e1
    refine ra np sl σ H h rt vs F true _ rl (by rw [e1]; rfl) _ fun H1 h1 F1 st1 rl1 q1 => ?_
    rw [if_pos rfl]
    exact rb np sl σ H1 h1 rt1 vs F1 bb _ rl1 (by rw [hv]; rfl) Q (k.thn st1 q1 and_tt)
  · rename_i rt1 e1
    cases hv
    refine ra np sl σ H h rt vs F false _ rl (by rw [e1]; rfl) _ fun H1 h1 F1 st1 rl1 q1 => ?_
    rw [if_neg Bool.false_ne_true]
    exact k H1 h1 F1 st1 rl1 fun z => q1 (and_tt z).1
  · cases hv
theorem rt_or (ra : RT Y a tA) (rb : RT Y b tB') : RT Y (.or a b) (tOr tA tB') := by
  intro np sl σ H h rt vs F bb rt' rl hv Q k
  have hv := tst_eq hv
  unfold ev at hv
  split at hv
  · rename_i rt1 e1
    cases hv
    refine ra np sl σ H h rt vs F true _ rl (by rw [e1]; rfl) _ fun H1 h1 F1 st1 rl1 q1 => ?_
    rw [if_pos rfl]
    exact k H1 h1 F1 st1 rl1 fun z => q1 (and_tt z).1
  · rename_i rt1 e1
    refine ra np sl σ H h rt vs F false _ rl (by rw [e1]; rfl) _ fun H1 h1 F1 st1 rl1 q1 => ?_
    rw [if_neg Bool.false_ne_true]
    exact rb np sl σ H1 h1 rt1 vs F1 bb _ rl1 (by rw [hv]; rfl) Q (k.thn st1 q1 and_tt)
  · cases hv
theorem re_ife {t : E} (rt0 : RT Y t tA) (ra : RE Y a ta) (rb : RE Y b tb) : RE Y (.ife t a b) (tIf tA ta tb) := by
  intro np mv sl σ H h rt vs F tr rt' rl hv Q k
  have hq : ∀ {z : Bool}, (t.q && a.q && b.q) = true → t.q = true ∧ (if z then a.q else b.q) = true := fun {z} y => by
    have y1 := and_tt y
    have y2 := and_tt y1.1
    cases z
    · exact ⟨y2.1, y1.2⟩
    · exact ⟨y2.1, y2.2⟩
  unfold ev at hv
  split at hv
  · rename_i rt1 e1
    refine rt0 np sl σ H h rt vs F true _ rl (by rw [e1]; rfl) _ fun H1 h1 F1 st1 rl1 q1 => ?_
    rw [if_pos rfl]
    exact ra np mv sl σ H1 h1 rt1 vs F1 _ _ rl1 hv Q (k.thn st1 q1 (hq (z := true)))
  · rename_i rt1 e1
    refine rt0 np sl σ H h rt vs F false _ rl (by rw [e1]; rfl) _ fun H1 h1 F1 st1 rl1 q1 => ?_
    rw [if_neg Bool.false_ne_true]
    exact rb np mv sl σ H1 h1 rt1 vs F1 _ _ rl1 hv Q (k.thn st1 q1 (hq (z := false)))
  · cases hv
theorem re_tup {es : Es} {t : TA} (ra : RAs Y es t) : RE Y (.tup es) (tTup t) := by
  intro np mv sl σ H h rt vs F tr rt' rl hv Q k
  unfold ev at hv
  split at hv
  · rename_i ts rt1 e1
    split at hv
    · rename_i hz
      cases hv
      refine ra np false sl σ H h rt vs F ts _ rl e1 _ fun ws H1 h1 F1 G st1 rl1 ow dj fr q1 => ⟨by rw [ow.length]; exact hz, fun p hp => ?_⟩
      obtain ⟨rl2, rp⟩ := rl1.shuts ow dj
      exact Made.tup rl2.sub (k.made (q1 := es.q) (st1.shuts ow fr) rl2 q1 fun z => z) rp hp
    · cases hv
  · cases hv
theorem re_lst {es : Es} {t : TA} (ra : RAs Y es t) : RE Y (.lst es) (tLst t) := by
  intro np mv sl σ H h rt vs F tr rt' rl hv Q k
  unfold ev at hv
  split at hv
  · rename_i ts rt1 e1
    split at hv
    · rename_i hz
      cases hv
      refine ra np mv sl σ H h rt vs F ts _ rl e1 _ fun ws H1 h1 F1 G st1 rl1 ow dj fr q1 => ⟨by rw [ow.length]; exact hz, fun p hp => ?_⟩
      have g0 : Grew h1 H1 h1 (upd H1 p (.lst ws)) := upd_grew0 rl1.sub hp
      have hnG : p ∉ G := fun z => by
        obtain ⟨_, o, e⟩ := ow.at p z
        rw [hp] at e; cases e
      refine k (.ref p) _ h1 F1 (p :: G) (st1.trans g0.stp) (g0.rel rl1) (.ls upd_same (rl1.sub.free hp) (ow.stay (Same.refl _) fun a z => ⟨upd_ne fun e => hnG (e ▸ z), (ow.at a z).1⟩) hnG) (fun a z => ?_) (fun a z => ?_) fun z => (q1 z).trans g0.big
      · rcases List.mem_cons.mp z with rfl | z
        · intro z'
          obtain ⟨_, o, e⟩ := rl1.own.at a z'
          rw [hp] at e; cases e
        · exact dj a z
      · rcases List.mem_cons.mp z with rfl | z
        · exact st1.back _ hp
        · exact fr a z
    · cases hv
  · cases hv
theorem re_rev (ra : RE Y a ta) : RE Y (.rev a) (tRevL Y.K ta) := by
  intro np mv sl σ H h rt vs F tr rt' rl hv Q k
  unfold ev at hv
  split at hv
  · cases hv
  · rename_i x rt1 e1
    obtain ⟨t, e3, e4⟩ := Option.map_eq_some_iff.mp hv
    cases e4
    refine ra.d rl e1 fun v H1 h1 F1 st1 rl1 r1 q1 => ?_
    unfold revD at e3
    split at e3
    · rename_i xs ex
      cases e3
      rw [ex] at r1
      cases r1 with
      | lst q s => exact ⟨_, _, rfl, SqL.of (rl1.sub _ _ q), fun p hp => Made.lstD rl1.sub (k.made st1 rl1 q1 fun z => z) s.reverse hp⟩
    · cases e3
theorem re_at (y : Y.Ok) {f : Str} (hf : f ∈ Y.I.fld) (ra : RE Y a ta) : RE Y (.at a f) (tFld Y.K ta f) := by
  intro np mv sl σ H h rt vs F tr rt' rl hv Q k
  unfold ev at hv
  split at hv
  · cases hv
  · rename_i x rt1 e1
    obtain ⟨t, e3, e4⟩ := Option.map_eq_some_iff.mp hv
    cases e4
    refine ra.d rl e1 fun v H1 h1 F1 st1 rl1 r1 q1 => ?_
    unfold atD at e3
    split at e3
    · rename_i cc ns ds ex
      rw [ex] at r1
      cases r1 with
      | ins q hk s =>
        rw [← hk] at e3
        obtain ⟨z, z1, z2⟩ := look_fs s e3
        exact ⟨_, _, _, _, z, rfl, rl1.sub _ _ q, (y.fld _ _ hf).1, (y.fld _ _ hf).2, z1, k.val st1 rl1 q1 (fun z => z) z2⟩
    · cases e3
theorem re_f1 {f : Mi.F1} (ra : RE Y a ta) : RE Y (.f1 f a) (tCB (rF Y.K Y.C f) (tCons ta tNil)) := by
  intro np mv sl σ H h rt vs F tr rt' rl hv Q k
  unfold ev at hv
  split at hv
  · cases hv
  · rename_i x rt1 e1
    obtain ⟨t, e3, e4⟩ := Option.map_eq_some_iff.mp hv
    cases e4
    exact ra.d rl e1 fun v H1 h1 F1 st1 rl1 r1 q1 => ⟨h1, v, x.d, _, rfl, rl1.sub, .rep r1, e3, k.made st1 rl1 q1 fun z => z⟩
theorem re_f1p {f : Mi.F1} {p : P} (ra : ∀ sl rt, TPs Y sl rt p ta) : RE Y (.f1p f p) (tCB (rF Y.K Y.C f) (tCons ta tNil)) := by
  intro np mv sl σ H h rt vs F tr rt' rl hv Q k
  unfold ev at hv
  split at hv
  · cases hv
  · rename_i x hp
    split at hv
    · cases hv
    · rename_i ds hi
      obtain ⟨t, e3, e4⟩ := Option.map_eq_some_iff.mp hv
      cases e4
      refine ra sl rt σ H h vs F rl _ hp _ fun v at0 => ?_
      obtain ⟨F1, pr, _⟩ := at0
      exact ⟨h, v, x.d, _, rfl, rl.sub, lie_of pr.1 hi, e3, k.made (q1 := true) Stp.refl rl (fun _ => Same.refl H) fun _ => rfl⟩
theorem re_x {x : X0} {t : TE} (ra : ∀ sl rt, TXs Y sl rt x t) : RE Y (.x x) t := by
  intro np mv sl σ H h rt vs F tr rt' rl hv Q k
  unfold ev at hv
  split at hv
  · rename_i d hd
    cases hv
    exact ra sl rt σ H h vs F rl d hd Q fun v rv => k.val (q1 := true) Stp.refl rl (fun _ => Same.refl H) (fun _ => rfl) rv
  · cases hv
/-- a path == [] -/
theorem re_emp {n : Bool} {p : P} (ra : ∀ sl rt, TPs Y sl rt p ta) : RE Y (.emp n p) (tOp (rC Y.K Y.C (if n then .ne else .eq)) ta (tLst tNil)) := by
  intro np mv sl σ H h rt vs F tr rt' rl hv Q k
  unfold ev at hv
  split at hv
  · rename_i u hp
    obtain ⟨b, e1, e2⟩ := Option.map_eq_some_iff.mp hv
    cases e2
    refine ra sl rt σ H h vs F rl _ hp _ fun v at0 => ?_
    obtain ⟨F1, pr, _⟩ := at0
    refine ⟨Nat.zero_le _, fun p hp => ?_⟩
    have e3 : Same h (ov h H F1) := ov_same fun a z => (pr.1.at a z).1
    have rv := pr.1.rep e3 fun a z => ov_in z
    have g : Grew (ov h H F1) H (upd (ov h H F1) p (.lst [])) (upd H p (.lst [])) := upd_grew (ov_sub rl.sub) hp
    have g0 : Grew h H h (upd H p (.lst [])) := upd_grew0 rl.sub hp
    have fin : ∀ c : Bool, c = (if n then !b else b) → Q (.bl c) (upd H p (.lst [])) := fun c e => by
      subst e
      exact k.bl (qa := true) g0.stp (g0.rel rl) fun _ => g0.big
    refine ⟨upd (ov h H F1) p (.lst []), u.d, .lst [], if n then !b else b, g.sub, rv.mono g.sml, .lst upd_same .nil, ?_, fin _ rfl⟩
    cases n
    · exact e1
    · show (eqD _ _).map _ = _
      rw [e1]
      rfl
  · cases hv
theorem re_pop {p : P} (ra : ∀ sl rt, TPs Y sl rt p ta) : RE Y (.pop p) (tBM0 Y.K "list" rPop ta) := by
  intro np mv sl σ H h rt vs F tr rt' rl hv Q k
  unfold ev at hv
  split at hv
  · rename_i ts hp
    split at hv
    · rename_i t ht
      obtain ⟨rt2, e1, e2⟩ := Option.map_eq_some_iff.mp hv
      cases e2
      refine ra sl rt σ H h vs F rl _ hp _ fun v at0 => ?_
      obtain ⟨F1, pr, _⟩ := at0
      obtain ⟨o, s1, w⟩ := pr
      cases o with
      | ls q n os na =>
        rename_i a xs F0 _
        obtain ⟨z, F2, G, z1, z2, z3, z4, z5, z6⟩ := os.snoc ht
        refine ⟨.inl ⟨rfl, xs, SqL.of q⟩, a, xs, z, rfl, rfl, q, z1, ?_⟩
        have na2 : a ∉ F2 := fun m => na (z4 a m)
        have naG : a ∉ G := fun m => na (z5 a m)
        have aF : a ∈ F := s1 a List.mem_cons_self
        have inF : ∀ b, b ∈ a :: F2 → b ∈ a :: F0 := fun b m => (List.mem_cons.mp m).elim (fun e => e ▸ List.mem_cons_self) fun m => List.mem_cons_of_mem _ (z4 b m)
        have go : ∀ g : Hp, Same h g → (∀ b, b ∈ F → b ∉ G → g b = none) → ∃ F', OwnR Y.K Y.C g (upd H a (.lst xs.dropLast)) vs rt' F' ∧ ∀ b, b ∈ F' → b ∈ F := fun g e gn => by
          obtain ⟨F', w1, w2⟩ := w g (upd H a (.lst xs.dropLast)) (.ls ts.dropLast) (a :: F2) e (fun b m n' => ⟨upd_ne fun e => n' (e ▸ List.mem_cons_self), gn b m fun mg => n' (List.mem_cons_of_mem _ (z5 b mg))⟩)
            (.ls upd_same (gn a aF naG) (z2.stay e fun b m => ⟨upd_ne fun e => na2 (e ▸ m), gn b (s1 b (List.mem_cons_of_mem _ (z4 b m))) fun mg => z6 b mg m⟩) na2) fun b m => .inl (inF b m)
          exact ⟨F', w1 rt' e1, fun b m => (w2 b m).elim id fun m => s1 b (inF b m)⟩
        obtain ⟨F', o1, i1⟩ := go h (Same.refl _) fun b m _ => (rl.own.at b m).1
        obtain ⟨F3, o2, _⟩ := go (ov h H G) (ov_same fun b m => (z3.at b m).1) fun b m n' => by rw [ov_out n']; exact (rl.own.at b m).1
        have e3 := o1.uniq o2
        subst e3
        refine k z (upd H a (.lst xs.dropLast)) h F' G ⟨fun b o e n' => ?_, Same.refl _, fun b o n e => ?_, fun b m => Or.inl (i1 b m)⟩ ⟨fun b o e => ?_, o1, rl.slt, rl.len⟩ (z3.stay (Same.refl _) fun b m => ⟨upd_ne fun e => naG (e ▸ m), (z3.at b m).1⟩) (fun b m m' => ?_) (fun b m => .inl (s1 b (List.mem_cons_of_mem _ (z5 b m)))) fun hq => by cases hq
        · have hb : b ≠ a := fun e' => n' (by rw [e']; exact aF)
          rw [upd_ne hb]
          exact e
        · rw [n] at e
          cases e
        · rw [upd_ne fun e' => by rw [e'] at e; rw [n] at e; cases e]
          exact rl.sub b o e
        · have := (o2.at b m').1
          rw [ov_in m] at this
          obtain ⟨_, o, e⟩ := z3.at b m
          rw [this] at e
          cases e
    · cases hv
  · cases hv
theorem rgOk_ok {a b : Int} (h : rgOk a b = true) : RgOk a b := by
  unfold rgOk at h
  simp only [Bool.and_eq_true, decide_eq_true_eq] at h
  exact ⟨h.1.1.1.1, h.1.1.1.2, h.1.1.2, h.1.2, h.2⟩
theorem rgV_reps {K : PySem.W.Frag} {C : Nat → Addr} (a b : Int) : Reps K C h (rgV a b) (rngD a (b - a).toNat) := by
  unfold rgV rngD
  generalize List.range (b - a).toNat = l
  induction l with
  | nil => exact .nil
  | cons x r ih => exact .cons (.int _) ih
def tRgB (tu : Bool) (te : L2.St → Hp → (Int → Int → Hp → Prop) → Prop) : TE := if tu then tTupRg te else tLstRg te
theorem re_lrg1 {tu : Bool} (ra : RE Y a ta) : RE Y (.lrg1 tu a) (tRgB tu (tRg1 ta)) := by
  intro np mv sl σ H h rt vs F tr rt' rl hv Q k
  unfold ev at hv
  split at hv
  · rename_i n rt1 e1
    split at hv
    · rename_i hr
      cases hv
      cases tu with
      | true =>
        refine ra.d rl e1 fun v H1 h1 F1 st1 rl1 r1 q1 => ?_
        cases r1
        refine ⟨n, rfl, rgOk_ok hr, fun p hp => Made.tup rl1.sub (k.made st1 rl1 q1 fun z => z) ?_ hp⟩
        have := rgV_reps (K := Y.K) (C := Y.C) (h := h1) 0 n
        rwa [Int.sub_zero] at this
      | false =>
        refine ra.d rl e1 fun v H1 h1 F1 st1 rl1 r1 q1 => ?_
        cases r1
        refine ⟨n, rfl, rgOk_ok hr, fun p hp => Made.lstD rl1.sub (k.made st1 rl1 q1 fun z => z) ?_ hp⟩
        have := rgV_reps (K := Y.K) (C := Y.C) (h := h1) 0 n
        rwa [Int.sub_zero] at this
    · cases hv
  · cases hv
theorem re_lrg2 {tu : Bool} (ra : RE Y a ta) (rb : RE Y b tb) : RE Y (.lrg2 tu a b) (tRgB tu (tRg2 ta tb)) := by
  intro np mv sl σ H h rt vs F tr rt' rl hv Q k
  unfold ev at hv
  split at hv
  · rename_i m rt1 e1
    split at hv
    · rename_i n rt2 e2
      split at hv
      · rename_i hr
        cases hv
        cases tu with
        | true =>
          refine two ra rb rl e1 e2 fun v w H2 h2 F2 st rl2 r1 r2 s => ?_
          cases r1
          cases r2
          exact ⟨m, n, rfl, rfl, rgOk_ok hr, fun p hp => Made.tup rl2.sub (k.made st rl2 s fun z => z) (rgV_reps m n) hp⟩
        | false =>
          refine two ra rb rl e1 e2 fun v w H2 h2 F2 st rl2 r1 r2 s => ?_
          cases r1
          cases r2
          exact ⟨m, n, rfl, rfl, rgOk_ok hr, fun p hp => Made.lstD rl2.sub (k.made st rl2 s fun z => z) (rgV_reps m n) hp⟩
      · cases hv
    · cases hv
  · cases hv
/-- a slice's part -/
def xPart (sl : Sl) (rt : Rt) (o : Option X0) : Option (Option Int) := match o with | none => some none | some e => (x0 sl rt e).bind fun d => optI (some d)
def TOs (Y : Fx) (o : Option X0) (t : TO) : Prop := ∀ sl rt σ H h vs F, Rel Y.K Y.C σ H h sl rt vs F → ∀ i, xPart sl rt o = some i → ∀ Q : Option Int → Hp → Prop, Q i H → t σ H Q
theorem to_some {x : X0} (ra : ∀ sl rt, TXs Y sl rt x ta) : TOs Y (some x) (tPart ta) := by
  intro sl rt σ H h vs F rl i hi Q q
  obtain ⟨d, hd, hi⟩ := Option.bind_eq_some_iff.mp hi
  refine ra sl rt σ H h vs F rl d hd _ fun v rv => ?_
  unfold optI at hi
  split at hi
  · rename_i e
    cases e
  · rename_i e
    cases e
    cases hi
    cases rv
    exact ⟨_, rfl, q⟩
  · cases hi
theorem re_sl {lo hi : Option X0} {tl th : TO} (ra : RE Y a ta) (rl0 : TOs Y lo tl) (rh0 : TOs Y hi th) : RE Y (.sl a lo hi) (tSl (rSlA' Y.K Y.C) ta tl th) := by
  intro np mv sl σ H h rt vs F tr rt' rl hv Q k
  unfold ev at hv
  split at hv
  · cases hv
  · rename_i x rt1 e1
    have hv : (match xPart sl rt1 lo, xPart sl rt1 hi with | some l, some h => (slD x.d l h).map fun t => (t, rt1) | _, _ => none) = some (tr, rt') := hv
    split at hv
    · rename_i l u el eu
      obtain ⟨t, e3, e4⟩ := Option.map_eq_some_iff.mp hv
      cases e4
      refine ra.d rl e1 fun v H1 h1 F1 st1 rl1 r1 q1 => ?_
      exact rl0 _ _ _ _ _ _ _ rl1 _ el _ (rh0 _ _ _ _ _ _ _ rl1 _ eu _ ⟨h1, x.d, _, rl1.sub, .rep r1, e3, k.made st1 rl1 q1 fun z => z⟩)
    · cases hv
end
end Mi
/-! MiMain: the check of expressions is sound. -/
namespace Mi
open PySem PySem.Spec PyProof.Rows L2
section
variable {Y : Fx} {c : Ck}
def SAs (Y : Fx) (c : Ck) (es : Es) (xs : List Expr) : Prop := ∃ t, (∀ X, Gd Y c X → PA X xs t) ∧ RAs Y es t
def SAA (Y : Fx) (c : Ck) (es : Es) (xs : List Expr) : Prop := ∃ t, (∀ X, Gd Y c X → PA X xs t) ∧ RAA Y es t
def SKK (Y : Fx) (c : Ck) (es : Es) (xs : List Keyword) : Prop := ∃ t, (∀ X, Gd Y c X → PK X xs t) ∧ RAA Y es t
def SI (Y : Fx) (c : Ck) (it : It) (tg e : Expr) : Prop := ∃ w, (∀ X, Gd Y c X → PI X tg e w) ∧ RI Y it w
def Both (Y : Fx) (c : Ck) (e : E) (a : Expr) : Prop := SE Y c e a ∧ STs Y c e a
theorem Both.of {e : E} {a : Expr} (s : SE Y c e a) (h : tOk a) : Both Y c e a := ⟨s, test_of s h⟩
theorem shapeP {I : Inf} {p : P} {a : Expr} (h : okP I c p a = true) : tOk a := by
  cases p <;> (unfold okP at h; split at h <;> first | trivial | cases h)
theorem shape0 {I : Inf} {x : X0} {a : Expr} (h : ok0 I c x a = true) : tOk a := by
  cases x with
  | rd p => unfold ok0 at h; exact shapeP h
  | _ => unfold ok0 at h; split at h <;> first | trivial | cases h
theorem fold_plain {e : Expr} {env : Env} (h : noSet e = true) : ∀ x, foldedSetIterable e env x = pure x := by
  cases e <;> first | (intro x; rfl) | cases h
theorem okI_set {I : Inf} {it : It} {t e : Expr} (h : okI I c it t e = true) : noSet e = true := by
  cases it with
  | seq a => unfold okI at h; exact (and_tt h).1
  | pth a => unfold okI at h; exact (and_tt h).1
  | _ => unfold okI at h; split at h <;> first | rfl | cases h
theorem okP_var {I : Inf} {i : Nat} {e : Expr} (h : okP I c (.var i) e = true) : ∃ x pos, e = .Name x pos ∧ c.N[i]? = some x ∧ vis c x = true ∧ plainN x = true := by
  unfold okP at h
  split at h
  · rename_i x pos
    simp only [Bool.and_eq_true, decide_eq_true_eq] at h
    exact ⟨x, pos, rfl, h.1.1, h.1.2, h.2⟩
  · cases h
theorem Gd.blk {X : Cx} (g : Gd Y c X) (s : Shared) (H : Hp) (scope : Scope) (C : Addr) (cl : List (Str × Addr)) (fp : List Addr) : Gd Y (c.blk scope) (X.blk s H scope (compEnvC scope cl C X.env) fp) where
  P := g.P
  w := g.w
  K := g.K
  mg := g.mg
  base := g.base
  sc := by
    show relabel scope X.env = relS scope c.sc
    rw [← g.sc]
    rfl
  N := g.N
  nd := g.nd
  calm := g.calm
  xe := rfl
  grd := g.grd
  room := g.room
  fn := fun x h => h
theorem raa_nil : RAA Y .nil tNil := by
  intro np sl σ H h rt vs F xs rt' rl hv Q k
  unfold evA at hv
  cases hv
  exact k [] H h F Stp.refl rl .nil fun _ => ⟨Same.refl _, fun x z => absurd z (by simp)⟩
theorem raa_cons {e : E} {r : Es} {te : TE} {t : TA} (re : RE Y e te) (rr : RAA Y r t) : RAA Y (.cons e r) (tCons te t) := by
  intro np sl σ H h rt vs F xs rt' rl hv Q k
  unfold evA at hv
  split at hv
  · cases hv
  · rename_i x rt1 e1
    split at hv
    · cases hv
    · rename_i ts rt2 e2
      cases hv
      refine re.d rl e1 fun v H1 h1 F1 st1 rl1 r1 q1 => ?_
      refine rr np sl σ H1 h1 rt1 vs F1 ts _ rl1 e2 _ fun ws H2 h2 F2 st2 rl2 av q2 => ?_
      refine k (v :: ws) H2 h2 F2 (st1.trans st2) rl2 (.cons (Rep.mono st2.up r1) av) fun z => ?_
      obtain ⟨s2, d2⟩ := q2 (and_tt z).2
      exact ⟨(q1 (and_tt z).1).trans s2, fun y m => (List.mem_cons.mp m).elim (fun e => ⟨_, e⟩) (d2 y)⟩
theorem raa_mut {i : Nat} {r : Es} {t : TA} (rr : RAA Y r t) : RAA Y (.mut i r) (tCons (tVar i) t) := by
  intro np sl σ H h rt vs F xs rt' rl hv Q k
  unfold evA at hv
  split at hv
  · rename_i kk e1
    split at hv
    · cases hv
    · rename_i ts rt2 e2
      cases hv
      obtain ⟨v, v1, v2⟩ := rl.slt i _ e1
      refine ⟨v, v1, ?_⟩
      refine rr np sl σ H h rt vs F ts _ rl e2 _ fun ws H2 h2 F2 st2 rl2 av q2 => ?_
      exact k (v :: ws) H2 h2 F2 st2 rl2 (.cons (x := .inr kk) v2 av) fun z => by cases z
  · rename_i d e1
    split at hv
    · cases hv
    · rename_i ts rt2 e2
      cases hv
      obtain ⟨v, v1, v2⟩ := rl.slt i _ e1
      refine ⟨v, v1, ?_⟩
      refine rr np sl σ H h rt vs F ts _ rl e2 _ fun ws H2 h2 F2 st2 rl2 av q2 => ?_
      exact k (v :: ws) H2 h2 F2 st2 rl2 (.cons (x := .inl d) (Rep.mono st2.up v2) av) fun z => by cases z
  · cases hv
def Es.len : Es → Nat
  | .nil => 0
  | .cons _ r => r.len + 1
  | .mut _ r => r.len + 1
theorem evA_length : ∀ (es : Es) (cc : Cfg) (sl : Sl) (rt : Rt) (xs : List (D ⊕ Nat)) (rt' : Rt), evA cc sl es rt = some (xs, rt') → xs.length = es.len
  | .nil, cc, sl, rt, xs, rt', e => by
    unfold evA at e
    cases e
    rfl
  | .cons a r, cc, sl, rt, xs, rt', e => by
    unfold evA at e
    split at e
    · cases e
    · split at e
      · cases e
      · rename_i e2
        cases e
        exact congrArg (· + 1) (evA_length r _ _ _ _ _ e2)
  | .mut i r, cc, sl, rt, xs, rt', e => by
    unfold evA at e
    split at e
    · split at e
      · cases e
      · rename_i e2
        cases e
        exact congrArg (· + 1) (evA_length r _ _ _ _ _ e2)
    · split at e
      · cases e
      · rename_i e2
        cases e
        exact congrArg (· + 1) (evA_length r _ _ _ _ _ e2)
    · cases e
theorem okEs_len {I : Inf} : ∀ {es : Es} {xs : List Expr}, okEs I c es xs = true → es.len = xs.length
  | .nil, xs, h => by
    unfold okEs at h
    split at h
    · rfl
    · cases h
  | .cons e r, xs, h => by
    unfold okEs at h
    split at h
    · exact congrArg (· + 1) (okEs_len (and_tt h).2)
    · cases h
  | .mut i r, xs, h => by
    unfold okEs at h
    split at h
    · exact congrArg (· + 1) (okEs_len (and_tt h).2)
    · cases h
theorem okKs_len {I : Inf} : ∀ {es : Es} {xs : List Keyword}, okKs I c es xs = true → xs.all (fun k => k.arg.isSome) = true → es.len = (kwNames xs).length
  | .nil, xs, h, a => by
    unfold okKs at h
    split at h
    · rfl
    · cases h
  | .cons e r, xs, h, a => by
    unfold okKs at h
    split at h
    · rename_i o x p xs
      rw [List.all_cons, Bool.and_eq_true] at a
      cases o with
      | none => cases a.1
      | some n => exact congrArg (· + 1) (okKs_len (and_tt h).2 a.2)
    · cases h
  | .mut i r, xs, h, a => by
    unfold okKs at h
    split at h
    · rename_i o x p xs
      rw [List.all_cons, Bool.and_eq_true] at a
      cases o with
      | none => cases a.1
      | some n => exact congrArg (· + 1) (okKs_len (and_tt h).2 a.2)
    · cases h

/-! ### what is walked -/
theorem ri_seq {a : E} {ta : TE} (ra : RE Y a ta) : RI Y (.seq a) (fun σ H R => iList Y.K ta σ H R ∨ iTup Y.K ta σ H R) := by
  intro np sl σ H h rt vs F ds rt' rl hv R k
  unfold evI at hv
  split at hv
  · cases hv
  · rename_i x rt1 e1
    obtain ⟨xs, e2, e3⟩ := Option.map_eq_some_iff.mp hv
    cases e3
    unfold D.items at e2
    split at e2
    · rename_i ys ex
      cases e2
      left
      refine ra.d rl e1 fun v H1 h1 F1 st1 rl1 r1 q1 => ?_
      rw [ex] at r1
      cases r1 with
      | lst q s => exact ⟨_, rfl, ⟨_, SqL.of (rl1.sub _ _ q)⟩, k _ H1 h1 F1 (SLc Y.K Y.C _ _) st1 rl1 (wk_list.imp (fun _ _ e s => s.to e) fun h H h' H' s e1 e2 _ => clo_SLc h H h' H' s e1 e2) ⟨_, SqL.of q, s⟩ (fun _ => clo_SLc) q1⟩
    · rename_i ys ex
      cases e2
      right
      refine ra.d rl e1 fun v H1 h1 F1 st1 rl1 r1 q1 => ?_
      rw [ex] at r1
      cases r1 with
      | tup q s => exact ⟨_, rfl, ⟨_, sqT_same rl1.sub q⟩, k _ H1 h1 F1 (STc Y.K Y.C _ _) st1 rl1 wk_tup ⟨_, q, s⟩ (fun _ => clo_STc) q1⟩
    · rename_i ns ex
      cases e2
      left
      refine ra.d rl e1 fun v H1 h1 F1 st1 rl1 r1 q1 => ?_
      rw [ex] at r1
      cases r1 with
      | scr q => exact ⟨_, rfl, ⟨_, rl1.sub.seq q⟩, k _ H1 h1 F1 (SLc Y.K Y.C _ _) st1 rl1 (wk_list.imp (fun _ _ e s => s.to e) fun h H h' H' s e1 e2 _ => clo_SLc h H h' H' s e1 e2) ⟨_, q, reps_ints _⟩ (fun _ => clo_SLc) q1⟩
    · cases e2
theorem ri_pth {p : P} {ta : TE} (ra : ∀ sl rt, TPs Y sl rt p ta) : RI Y (.pth p) (fun σ H R => iList Y.K ta σ H R ∨ iTup Y.K ta σ H R) := by
  intro np sl σ H h rt vs F ds rt' rl hv R k
  unfold evI at hv
  split at hv
  · cases hv
  · rename_i x hp
    obtain ⟨xs, e2, e3⟩ := Option.map_eq_some_iff.mp hv
    cases e3
    cases x with
    | cl d =>
      have e2 : d.items = some ds := e2
      unfold D.items at e2
      split at e2
      · cases e2
        left
        refine ra sl rt σ H h vs F rl _ hp _ fun v at0 => ?_
        obtain ⟨F1, pr, _⟩ := at0
        have r1 := rep_d pr.1
        cases r1 with
        | lst q s => exact ⟨_, rfl, ⟨_, SqL.of (rl.sub _ _ q)⟩, k _ H h F (SLc Y.K Y.C _ _) Stp.refl rl (wk_list.imp (fun _ _ e s => s.to e) fun h H h' H' s e1 e2 _ => clo_SLc h H h' H' s e1 e2) ⟨_, SqL.of q, s⟩ (fun z => by cases z) fun _ => Same.refl _⟩
      · cases e2
        right
        refine ra sl rt σ H h vs F rl _ hp _ fun v at0 => ?_
        obtain ⟨F1, pr, _⟩ := at0
        have r1 := rep_d pr.1
        cases r1 with
        | tup q s => exact ⟨_, rfl, ⟨_, sqT_same rl.sub q⟩, k _ H h F (STc Y.K Y.C _ _) Stp.refl rl wk_tup ⟨_, q, s⟩ (fun z => by cases z) fun _ => Same.refl _⟩
      · cases e2
        left
        refine ra sl rt σ H h vs F rl _ hp _ fun v at0 => ?_
        obtain ⟨F1, pr, _⟩ := at0
        have r1 := rep_d pr.1
        cases r1 with
        | scr q => exact ⟨_, rfl, ⟨_, rl.sub.seq q⟩, k _ H h F (SLc Y.K Y.C _ _) Stp.refl rl (wk_list.imp (fun _ _ e s => s.to e) fun h H h' H' s e1 e2 _ => clo_SLc h H h' H' s e1 e2) ⟨_, q, reps_ints _⟩ (fun z => by cases z) fun _ => Same.refl _⟩
      · cases e2
    | ls ts =>
      left
      refine ra sl rt σ H h vs F rl _ hp _ fun v at0 => ?_
      obtain ⟨F1, pr, _⟩ := at0
      cases pr.1 with
      | ls q n os na =>
        obtain ⟨s, _⟩ := leaves_ok os e2
        exact ⟨_, rfl, ⟨_, SqL.of q⟩, k _ H h F (SL Y.K Y.C _ _) Stp.refl rl wk_list ⟨_, SqL.of q, s⟩ (fun z => by cases z) fun _ => Same.refl _⟩
    | dc ks ts => cases e2
    | ob cc ns ts => cases e2
theorem inRng_ok {i : Int} (h : inRng i = true) : -(2 ^ 62) ≤ i ∧ i < 2 ^ 62 := by
  unfold inRng at h
  simpa using h
theorem ri_rng1 {a : E} {ta : TE} (ra : RE Y a ta) : RI Y (.rng1 a) (iRng1 (tCons ta tNil)) := by
  intro np sl σ H h rt vs F ds rt' rl hv R k
  unfold evI at hv
  split at hv
  · rename_i n rt1 e1
    split at hv
    · rename_i hr
      cases hv
      refine ra.d rl e1 fun v H1 h1 F1 st1 rl1 r1 q1 => ?_
      cases r1
      exact ⟨n, rfl, (inRng_ok hr).1, (inRng_ok hr).2, k _ H1 h1 F1 (fun _ _ => True) st1 rl1 wk_rng trivial (fun _ _ _ _ _ _ _ _ => trivial) q1⟩
    · cases hv
  · cases hv
theorem ri_rng2 {a b : E} {ta tb : TE} (ra : RE Y a ta) (rb : RE Y b tb) : RI Y (.rng2 a b) (iRng2 (tCons ta (tCons tb tNil))) := by
  intro np sl σ H h rt vs F ds rt' rl hv R k
  unfold evI at hv
  split at hv
  · rename_i m rt1 e1
    split at hv
    · rename_i n rt2 e2
      split at hv
      · rename_i hr
        cases hv
        have hr := and_tt hr
        refine two ra rb rl e1 e2 fun v w H2 h2 F2 st rl2 r1 r2 s => ?_
        cases r1
        cases r2
        exact ⟨m, n, rfl, ⟨(inRng_ok hr.1).1, (inRng_ok hr.1).2, (inRng_ok hr.2).1, (inRng_ok hr.2).2⟩, k _ H2 h2 F2 (fun _ _ => True) st rl2 wk_rng trivial (fun _ _ _ _ _ _ _ _ => trivial) s⟩
      · cases hv
    · cases hv
  · cases hv
theorem ri_enum {a : E} {ta : TE} (ra : RE Y a ta) : RI Y (.enum a) (iEnum Y.K (tCons ta tNil)) := by
  intro np sl σ H h rt vs F ds rt' rl hv R k
  unfold evI at hv
  split at hv
  · cases hv
  · rename_i x rt1 e1
    split at hv
    · rename_i xs ex
      cases hv
      refine ra.d rl e1 fun v H1 h1 F1 st1 rl1 r1 q1 => ?_
      rw [ex] at r1
      cases r1 with
      | lst q s => exact ⟨_, _, rfl, SqL.of (rl1.sub _ _ q), k _ H1 h1 F1 (SLc Y.K Y.C _ _) st1 rl1 (wk_enum.imp (fun _ _ e s => s.to e) fun h H h' H' s e1 e2 _ => clo_SLc h H h' H' s e1 e2) ⟨_, SqL.of q, s⟩ (fun _ => clo_SLc) q1⟩
    · cases hv
theorem ri_enumP {p : P} {ta : TE} (ra : ∀ sl rt, TPs Y sl rt p ta) : RI Y (.enumP p) (iEnum Y.K (tCons ta tNil)) := by
  intro np sl σ H h rt vs F ds rt' rl hv R k
  unfold evI at hv
  split at hv
  · cases hv
  · rename_i x hp
    split at hv
    · rename_i xs e2
      cases hv
      refine ra sl rt σ H h vs F rl _ hp _ fun v at0 => ?_
      obtain ⟨F1, pr, _⟩ := at0
      unfold T.lst at e2
      split at e2
      · cases e2
        have r1 := rep_d pr.1
        cases r1 with
        | lst q s => exact ⟨_, _, rfl, SqL.of (rl.sub _ _ q), k _ H h F (SLc Y.K Y.C _ _) Stp.refl rl (wk_enum.imp (fun _ _ e s => s.to e) fun h H h' H' s e1 e2 _ => clo_SLc h H h' H' s e1 e2) ⟨_, SqL.of q, s⟩ (fun z => by cases z) fun _ => Same.refl _⟩
      · cases pr.1 with
        | ls q n os na =>
          obtain ⟨s, _⟩ := leaves_ok os e2
          exact ⟨_, _, rfl, SqL.of q, k _ H h F (SL Y.K Y.C _ _) Stp.refl rl wk_enum ⟨_, SqL.of q, s⟩ (fun z => by cases z) fun _ => Same.refl _⟩
      · cases e2
    · cases hv
theorem ri_zip {a b : E} {ta tb : TE} (ra : RE Y a ta) (rb : RE Y b tb) : RI Y (.zip a b) (RZ.iZipA Y.K (tCons ta (tCons tb tNil))) := by
  intro np sl σ H h rt vs F ds rt' rl hv R k
  unfold evI at hv
  split at hv
  · cases hv
  · rename_i x rt1 e1
    split at hv
    · cases hv
    · rename_i y rt2 e2
      refine two ra rb rl e1 e2 fun v w H2 h2 F2 st rl2 r1 r2 s => ?_
      split at hv
      · rename_i xs ys ex ey
        cases hv
        rw [ex] at r1
        rw [ey] at r2
        cases r1 with
        | lst q1 s1 =>
        cases r2 with
        | lst q2 s2 => exact ⟨_, _, _, _, rfl, .inl ⟨SqL.of (rl2.sub _ _ q1), SqL.of (rl2.sub _ _ q2), k _ H2 h2 F2 (fun h H => SLc Y.K Y.C _ _ h H ∧ SLc Y.K Y.C _ _ h H) st rl2
            (wk_zip.imp (fun _ _ e s => ⟨s.1.to e, s.2.to e⟩) fun h H h' H' s e1 e2 _ => ⟨clo_SLc h H h' H' s.1 e1 e2, clo_SLc h H h' H' s.2 e1 e2⟩) ⟨⟨_, SqL.of q1, s1⟩, ⟨_, SqL.of q2, s2⟩⟩ (fun _ h H h' H' s e1 e2 => ⟨clo_SLc h H h' H' s.1 e1 e2, clo_SLc h H h' H' s.2 e1 e2⟩) s⟩⟩
      · rename_i xs ys ex ey
        cases hv
        rw [ex] at r1
        rw [ey] at r2
        cases r1 with
        | tup q1 s1 =>
        cases r2 with
        | tup q2 s2 => exact ⟨_, _, _, _, rfl, .inr ⟨sqT_same rl2.sub q1, sqT_same rl2.sub q2, k _ H2 h2 F2 (fun h H => STc Y.K Y.C _ _ h H ∧ STc Y.K Y.C _ _ h H) st rl2 wk_zipT ⟨⟨_, q1, s1⟩, ⟨_, q2, s2⟩⟩ (fun _ h H h' H' s e1 e2 => ⟨clo_STc h H h' H' s.1 e1 e2, clo_STc h H h' H' s.2 e1 e2⟩) s⟩⟩
      · cases hv

/-! ### the whole -/
theorem sndO (y : Y.Ok) {o : Option X0} {e : Option Expr} (h : okO Y.I c o e = true) : ∃ t, (∀ X, Gd Y c X → PO X e t) ∧ TOs Y o t := by
  unfold okO at h
  split at h
  · exact ⟨tNoPart, fun X g => po_none, fun sl rt σ H h vs F rl i hi Q q => by cases hi; exact q⟩
  · obtain ⟨t, pe, re⟩ := sndX y _ _ h
    exact ⟨tPart t, fun X g => po_some (pe X g), to_some re⟩
  · cases h
theorem opIs_eq {op : BOp} {o : Operator} (h : opIs op o = true) : o = op.py := by
  cases op <;> cases o <;> first | rfl | cases h
theorem cmIs_eq {op : COp} {o : CmpOp} (h : cmIs op o = true) : o = op.py := by
  cases op <;> cases o <;> first | rfl | cases h
theorem nomarkC (op : COp) (b : Expr) (h : cmIs op op.py = true) : behindInMarks op.py b = false := by
  cases op <;> first | exact nomark b | cases h
theorem pt_plain {X : Cx} {e : Expr} {t : TE} (h : PE X e t) (ok : tOk e) : PT X e (tB t) := by
  refine pt_val h fun wh => ?_
  cases e with
  | UnaryOp o x p => cases o <;> first | rfl | exact ok.elim
  | BoolOp _ _ _ => exact ok.elim
  | IfExp _ _ _ _ => exact ok.elim
  | Compare _ _ _ _ => exact ok.elim
  | _ => rfl
theorem starB {a b : Expr} {env : Env} (h1 : noStar a = true) (h2 : noStar b = true) : starEach [a, b] env = [(false, eval a env), (false, eval b env)] := by
  rw [star_cons h1, star_cons h2]
  rfl
mutual
theorem sndE (y : Y.Ok) : ∀ (e : E) (c : Ck) (a : Expr), okE Y.I c e a = true → Both Y c e a
  | .int i, c, a, ok => by
    unfold okE at ok
    split at ok
    · have ok := of_decide_eq_true ok
      subst ok
      exact .of ⟨_, fun X g => pe_int, re_c (d := .int i) (fun _ _ _ _ => by unfold ev; rfl) fun _ => .int _⟩ trivial
    · cases ok
  | .bl i, c, a, ok => by
    unfold okE at ok
    split at ok
    · have ok := of_decide_eq_true ok
      subst ok
      exact .of ⟨_, fun X g => pe_bl, re_c (d := .bl i) (fun _ _ _ _ => by unfold ev; rfl) fun _ => .bl _⟩ trivial
    · cases ok
  | .non, c, a, ok => by
    unfold okE at ok
    split at ok
    · exact .of ⟨_, fun X g => pe_non, re_c (d := .non) (fun _ _ _ _ => by unfold ev; rfl) fun _ => .non⟩ trivial
    · cases ok
  | .str i, c, a, ok => by
    unfold okE at ok
    split at ok
    · have ok := of_decide_eq_true ok
      subst ok
      exact .of ⟨_, fun X g => pe_str, re_c (d := .str i) (fun _ _ _ _ => by unfold ev; rfl) fun _ => .str _⟩ trivial
    · cases ok
  | .glb x, c, a, ok => by
    unfold okE at ok
    split at ok
    · simp only [Bool.and_eq_true, decide_eq_true_eq] at ok
      obtain ⟨⟨⟨rfl, h1⟩, h2⟩, h3⟩ := ok
      obtain ⟨d, hd⟩ := Option.isSome_iff_exists.mp h3
      obtain ⟨v, u, e1, e2, e3⟩ := y.glb _ _ hd
      unfold plainN at h2
      simp only [Bool.and_eq_true, Bool.not_eq_true', decide_eq_true_eq] at h2
      refine .of ⟨_, fun X g => pe_glob (g.glo h1) (by rw [g.mg]; exact e1) e2 h2.1.1, re_c (d := d) (fun np mv sl rt => ?_) e3⟩ trivial
      unfold ev
      show (match Y.I.glb.lookup _ with | some d => some (T.cl d, rt) | none => none) = _
      rw [hd]
    · cases ok
  | .x x, c, a, ok => by
    unfold okE at ok
    obtain ⟨t, pe, re⟩ := sndX y x a ok
    exact .of ⟨t, pe, re_x re⟩ (shape0 ok)
  | .get p, c, a, ok => by
    unfold okE at ok
    exact .of (snd_get y p c a ok) (shapeP ok)
  | .bin op a b, c, e, ok => by
    unfold okE at ok
    split at ok
    · rename_i x o z pos
      simp only [Bool.and_eq_true] at ok
      obtain ⟨t1, p1, r1⟩ := (sndE y a c x ok.1.2).1
      obtain ⟨t2, p2, r2⟩ := (sndE y b c z ok.2).1
      cases opIs_eq ok.1.1
      refine .of ⟨_, fun X g => ?_, re_bin r1 r2⟩ trivial
      have q := pe_op (pos := pos) (opB_ok (X := X) (C := Y.C) op) (p1 X g) (p2 X g)
      rw [g.K] at q
      exact q
    · cases ok
  | .neg a, c, e, ok => by
    unfold okE at ok
    split at ok
    · obtain ⟨t1, p1, r1⟩ := (sndE y a c _ ok).1
      exact .of ⟨_, fun X g => pe_un un_neg (p1 X g), re_neg r1⟩ trivial
    · cases ok
  | .cmp op a b, c, e, ok => by
    unfold okE at ok
    split at ok
    · rename_i x o z pos
      simp only [Bool.and_eq_true] at ok
      obtain ⟨t1, p1, r1⟩ := (sndE y a c x ok.1.2).1
      obtain ⟨t2, p2, r2⟩ := (sndE y b c z ok.2).1
      have ho := ok.1.1
      cases cmIs_eq ho
      refine ⟨⟨_, fun X g => ?_, re_cmp r1 r2⟩, fun _ => ⟨_, fun X g => ⟨?_, fun z => by cases z⟩, rt_of (re_cmp r1 r2)⟩⟩
      · have q := pe_cmpR (pos := pos) (opC_ok (X := X) (C := Y.C) g.units op) (p1 X g) (p2 X g) (nomarkC op z ho)
        rw [g.K] at q
        exact q
      · have q := pt_cmpR (pos := pos) (opC_ok (X := X) (C := Y.C) g.units op) (p1 X g) (p2 X g) (nomarkC op z ho)
        rw [g.K] at q
        exact q
    · cases ok
  | .emp n p, c, e, ok => by
    unfold okE at ok
    split at ok
    · rename_i x o kp pos
      rw [Bool.and_eq_true] at ok
      obtain ⟨t1, p1, r1⟩ := sndP y p x ok.2
      have ho := ok.1
      cases cmIs_eq ho
      have hn : ∀ b, behindInMarks (COp.py (if n = true then COp.ne else COp.eq)) b = false := fun b => by cases n <;> exact nomark b
      refine ⟨⟨_, fun X g => ?_, re_emp r1⟩, fun _ => ⟨_, fun X g => ⟨?_, fun z => by cases z⟩, rt_of (re_emp r1)⟩⟩
      · have q := pe_cmpR (pos := pos) (opC_ok (X := X) (C := Y.C) g.units (if n = true then COp.ne else COp.eq)) (p1 X g) (pe_lst (pos := kp) pa_nil) (hn _)
        rw [g.K] at q
        exact q
      · have q := pt_cmpR (pos := pos) (opC_ok (X := X) (C := Y.C) g.units (if n = true then COp.ne else COp.eq)) (p1 X g) (pe_lst (pos := kp) pa_nil) (hn _)
        rw [g.K] at q
        exact q
    · cases ok
  | .and a b, c, e, ok => by
    unfold okE at ok
    split at ok
    · rename_i x z pos
      rw [Bool.and_eq_true] at ok
      obtain ⟨⟨t1, p1, r1⟩, s1⟩ := sndE y a c x ok.1
      obtain ⟨⟨t2, p2, r2⟩, s2⟩ := sndE y b c z ok.2
      refine ⟨⟨_, fun X g => pe_and (p1 X g) (pe_one (p2 X g)), re_and r1 r2⟩, fun hn => ?_⟩
      obtain ⟨u1, q1, w1⟩ := s1 (and_tt hn).1
      obtain ⟨u2, q2, w2⟩ := s2 (and_tt hn).2
      exact ⟨_, fun X g => ⟨(pw_and (q1 X g).1 (pw_and1 (q2 X g).1)).pt, fun _ => pw_and (q1 X g).1 (pw_and1 (q2 X g).1)⟩, rt_and w1 w2⟩
    · rename_i x z w r pos
      rw [Bool.and_eq_true] at ok
      obtain ⟨⟨t1, p1, r1⟩, s1⟩ := sndE y a c x ok.1
      obtain ⟨⟨t2, p2, r2⟩, s2⟩ := sndE y b c _ ok.2
      refine ⟨⟨_, fun X g => pe_and (p1 X g) (p2 X g), re_and r1 r2⟩, fun hn => ?_⟩
      obtain ⟨u1, q1, w1⟩ := s1 (and_tt hn).1
      obtain ⟨u2, q2, w2⟩ := s2 (and_tt hn).2
      exact ⟨_, fun X g => ⟨(pw_and (q1 X g).1 ((q2 X g).2 rfl)).pt, fun _ => pw_and (q1 X g).1 ((q2 X g).2 rfl)⟩, rt_and w1 w2⟩
    · cases ok
  | .or a b, c, e, ok => by
    unfold okE at ok
    split at ok
    · rename_i x z pos
      rw [Bool.and_eq_true] at ok
      obtain ⟨⟨t1, p1, r1⟩, s1⟩ := sndE y a c x ok.1
      obtain ⟨⟨t2, p2, r2⟩, s2⟩ := sndE y b c z ok.2
      refine ⟨⟨_, fun X g => pe_or (p1 X g) (pe_one (p2 X g)), re_or r1 r2⟩, fun hn => ?_⟩
      obtain ⟨u1, q1, w1⟩ := s1 (and_tt hn).1
      obtain ⟨u2, q2, w2⟩ := s2 (and_tt hn).2
      exact ⟨_, fun X g => ⟨(pw_or (q1 X g).1 (pw_or1 (q2 X g).1)).pt, fun _ => pw_or (q1 X g).1 (pw_or1 (q2 X g).1)⟩, rt_or w1 w2⟩
    · rename_i x z w r pos
      rw [Bool.and_eq_true] at ok
      obtain ⟨⟨t1, p1, r1⟩, s1⟩ := sndE y a c x ok.1
      obtain ⟨⟨t2, p2, r2⟩, s2⟩ := sndE y b c _ ok.2
      refine ⟨⟨_, fun X g => pe_or (p1 X g) (p2 X g), re_or r1 r2⟩, fun hn => ?_⟩
      obtain ⟨u1, q1, w1⟩ := s1 (and_tt hn).1
      obtain ⟨u2, q2, w2⟩ := s2 (and_tt hn).2
      exact ⟨_, fun X g => ⟨(pw_or (q1 X g).1 ((q2 X g).2 rfl)).pt, fun _ => pw_or (q1 X g).1 ((q2 X g).2 rfl)⟩, rt_or w1 w2⟩
    · cases ok
  | .not a, c, e, ok => by
    unfold okE at ok
    split at ok
    · rename_i x pos
      rw [Bool.and_eq_true] at ok
      obtain ⟨⟨t1, p1, r1⟩, s1⟩ := sndE y a c x ok.2
      obtain ⟨u1, q1, w1⟩ := s1 ok.1
      exact ⟨⟨_, fun X g => pe_not (p1 X g), re_not r1⟩, fun _ => ⟨_, fun X g => ⟨pt_not (q1 X g).1, fun z => by cases z⟩, rt_not w1⟩⟩
    · cases ok
  | .ife t a b, c, e, ok => by
    unfold okE at ok
    split at ok
    · rename_i x z w pos
      simp only [Bool.and_eq_true] at ok
      obtain ⟨_, s0⟩ := sndE y t c x ok.1.1.2
      obtain ⟨u0, q0, w0⟩ := s0 ok.1.1.1
      obtain ⟨t1, p1, r1⟩ := (sndE y a c z ok.1.2).1
      obtain ⟨t2, p2, r2⟩ := (sndE y b c w ok.2).1
      exact ⟨⟨_, fun X g => pe_ifExp (q0 X g).1 (p1 X g) (p2 X g), re_ife w0 r1 r2⟩, fun z => by cases z⟩
    · cases ok
  | .tup es, c, e, ok => by
    unfold okE at ok
    split at ok
    · obtain ⟨t, p, r⟩ := sndEs y es c _ ok
      exact .of ⟨_, fun X g => pe_tup (p X g), re_tup r⟩ trivial
    · cases ok
  | .lst es, c, e, ok => by
    unfold okE at ok
    split at ok
    · obtain ⟨t, p, r⟩ := sndEs y es c _ ok
      exact .of ⟨_, fun X g => pe_lst (p X g), re_lst r⟩ trivial
    · cases ok
  | .ix a i, c, e, ok => by
    unfold okE at ok
    split at ok
    · rename_i x z pos
      simp only [Bool.and_eq_true] at ok
      obtain ⟨t1, p1, r1⟩ := (sndE y a c x ok.1.2).1
      obtain ⟨t2, p2, r2⟩ := (sndE y i c z ok.2).1
      refine .of ⟨_, fun X g => ?_, re_ix r1 r2⟩ trivial
      have q := pe_ix (pos := pos) (ix_ok (X := X) (C := Y.C) (Nat.lt_of_le_of_lt (by omega) g.units)) (p1 X g) (p2 X g) (plain_ix ok.1.1)
      rw [g.K] at q
      exact q
    · cases ok
  | .sl a lo hi, c, e, ok => by
    unfold okE at ok
    split at ok
    · rename_i x l u p2 pos
      simp only [Bool.and_eq_true] at ok
      obtain ⟨t1, p1, r1⟩ := (sndE y a c x ok.1.1).1
      obtain ⟨tl, pl, rl⟩ := sndO y ok.1.2
      obtain ⟨tu, pu, ru⟩ := sndO y ok.2
      refine .of ⟨_, fun X g => ?_, re_sl r1 rl ru⟩ trivial
      have q := pe_slice (p2 := p2) (pos := pos) (sl_ok (X := X) (C := Y.C)) (p1 X g) (pl X g) (pu X g)
      rw [g.K] at q
      exact q
    · cases ok
  | .rev a, c, e, ok => by
    unfold okE at ok
    split at ok
    · rename_i x kk p1 p2 p3 p4
      obtain ⟨t1, q1, r1⟩ := (sndE y a c _ ok).1
      refine .of ⟨_, fun X g => ?_, re_rev r1⟩ trivial
      have q := pe_revL (k := kk) (p1 := p1) (p2 := p2) (p3 := p3) (pos := p4) (q1 X g)
      rw [g.K] at q
      exact q
    · cases ok
  | .at a f, c, e, ok => by
    unfold okE at ok
    split at ok
    · rename_i x f' pos
      simp only [Bool.and_eq_true, decide_eq_true_eq] at ok
      obtain ⟨⟨⟨rfl, hf⟩, hb⟩, h4⟩ := ok
      obtain ⟨t1, p1, r1⟩ := (sndE y a c x h4).1
      refine .of ⟨_, fun X g => ?_, re_at y (by simpa using hf) r1⟩ trivial
      have q := pe_fld (f := f) (pos := pos) (p1 X g) (attr_base hb)
      rw [g.K] at q
      exact q
    · cases ok
  | .call f es kw pm, c, e, ok => by
    unfold okE at ok
    split at ok
    · rename_i x p as ks pos
      simp only [Bool.and_eq_true, decide_eq_true_eq] at ok
      obtain ⟨⟨⟨⟨⟨⟨⟨h1, h2⟩, h3⟩, h4⟩, h5⟩, h6⟩, h7⟩, h8⟩ := ok
      obtain ⟨ta, pa, ra⟩ := sndA y es c as h6
      obtain ⟨tk, pk, rk⟩ := sndK y kw c ks h7
      obtain ⟨ad, fd, ps, m1, m2, m3, m4⟩ := y.fns f x h1
      unfold plainN at h3
      simp only [Bool.and_eq_true, Bool.not_eq_true', decide_eq_true_eq] at h3
      have l1 := okEs_len h6
      have l2 := okKs_len h7 h5
      have rr := read_call (f := f) (pm := pm) ra rk (fun cc sl rt xs rt' e => (evA_length es cc sl rt xs rt' e).trans l1) (fun cc sl rt xs rt' e => (evA_length kw cc sl rt xs rt' e).trans l2)
      cases as with
      | nil =>
        have e0 : es = .nil := by cases es <;> first | rfl | cases l1
        subst e0
        have rr0 := read_call (f := f) (pm := pm) raa_nil rk (fun cc sl rt xs rt' e => (evA_length .nil cc sl rt xs rt' e).trans l1) (fun cc sl rt xs rt' e => (evA_length kw cc sl rt xs rt' e).trans l2)
        refine .of ⟨_, fun X g => ?_, rr0⟩ trivial
        have F : FOk X.prog X.w X.K X.mg X.base Y.k ad fd ps (spF Y.K Y.C Y.F f) := by rw [g.P, g.w, g.K, g.mg, g.base]; exact m3
        exact pe_callU0 F g.room g.grd (g.glo h2) (by rw [g.mg]; exact m1) (by rw [g.K]; exact m2) (by rw [g.K]; exact m4 _ _ _ h8) h5 (pk X g) h3.1.1
      | cons a0 as =>
        refine .of ⟨_, fun X g => ?_, rr⟩ trivial
        have F : FOk X.prog X.w X.K X.mg X.base Y.k ad fd ps (spF Y.K Y.C Y.F f) := by rw [g.P, g.w, g.K, g.mg, g.base]; exact m3
        exact pe_callU F g.room g.grd (g.glo h2) (by rw [g.mg]; exact m1) (by rw [g.K]; exact m2) (by rw [g.K]; exact m4 _ _ _ h8) (List.cons_ne_nil _ _) h4 h5 (pa X g) (pk X g) h3.1.1
    · cases ok
  | .f1 f a, c, e, ok => by
    unfold okE at ok
    split at ok
    · rename_i x p z pos
      simp only [Bool.and_eq_true, decide_eq_true_eq] at ok
      obtain ⟨⟨⟨rfl, h1⟩, h2⟩, h3⟩ := ok
      obtain ⟨t1, p1, r1⟩ := (sndE y a c z h3).1
      obtain ⟨b1, b2, b3, b4⟩ := f.boot
      refine .of ⟨_, fun X g => ?_, re_f1 r1⟩ trivial
      have q := g.call (p := p) (pos := pos) (f1_ok (X := X) (C := Y.C) g.calm g.grd g.units f) h1 (g.blt y b2) b1 b4 b3 (by simpa using h2) (pa_one h2 (p1 X g))
      rw [g.K] at q
      exact q
    · cases ok
  | .f1p f pp, c, e, ok => by
    unfold okE at ok
    split at ok
    · rename_i x p z pos
      simp only [Bool.and_eq_true, decide_eq_true_eq] at ok
      obtain ⟨⟨⟨rfl, h1⟩, h2⟩, h3⟩ := ok
      obtain ⟨t1, p1, r1⟩ := sndP y pp z h3
      obtain ⟨b1, b2, b3, b4⟩ := f.boot
      refine .of ⟨_, fun X g => ?_, re_f1p r1⟩ trivial
      have q := g.call (p := p) (pos := pos) (f1_ok (X := X) (C := Y.C) g.calm g.grd g.units f) h1 (g.blt y b2) b1 b4 b3 (by simpa using h2) (pa_one h2 (p1 X g))
      rw [g.K] at q
      exact q
    · cases ok
  | .f2 f a b, c, e, ok => by
    unfold okE at ok
    split at ok
    · rename_i x p z w pos
      simp only [Bool.and_eq_true, decide_eq_true_eq] at ok
      obtain ⟨⟨⟨⟨⟨rfl, h1⟩, h2⟩, h3⟩, h4⟩, h5⟩ := ok
      obtain ⟨t1, p1, r1⟩ := (sndE y a c z h4).1
      obtain ⟨t2, p2, r2⟩ := (sndE y b c w h5).1
      obtain ⟨b1, b2, b3, b4⟩ := f.boot
      refine .of ⟨_, fun X g => ?_, re_f2 r1 r2⟩ trivial
      have q := g.call (p := p) (pos := pos) (f2_ok (X := X) (C := Y.C) g.calm f) h1 (g.blt y b2) b1 b4 b3 (by simp [h2, h3]) (pa_cons (p1 X g) (pa_one h3 (p2 X g)) (star_cons h2))
      rw [g.K] at q
      exact q
    · cases ok
  | .lrg1 tu b, c, e, ok => by
    unfold okE at ok
    split at ok
    · rename_i x p0 yy p1 z p2 p3
      simp only [Bool.and_eq_true, decide_eq_true_eq] at ok
      obtain ⟨⟨⟨⟨⟨rfl, rfl⟩, h1⟩, h2⟩, h3⟩, h4⟩ := ok
      obtain ⟨te, pe, re⟩ := (sndE y b c _ h4).1
      refine .of ⟨_, fun X g => ?_, re_lrg1 (tu := tu) re⟩ trivial
      have q := prg_1 (p := p1) (pos := p2) (g.glo h2) (g.blt y (by decide +kernel)) (pe X g) (star_cons h3)
      cases tu with
      | true => exact pe_tupRg g.calm (g.glo h1) (g.blt y (by decide +kernel)) q rfl
      | false => exact pe_listRg g.calm (g.glo h1) (g.blt y (by decide +kernel)) q rfl
    · cases ok
  | .lrg2 tu a b, c, e, ok => by
    unfold okE at ok
    split at ok
    · rename_i x p0 yy p1 z w p2 p3
      simp only [Bool.and_eq_true, decide_eq_true_eq] at ok
      obtain ⟨⟨⟨⟨⟨⟨⟨rfl, rfl⟩, h1⟩, h2⟩, h3⟩, h4⟩, h5⟩, h6⟩ := ok
      obtain ⟨t1, q1, r1⟩ := (sndE y a c _ h5).1
      obtain ⟨t2, q2, r2⟩ := (sndE y b c _ h6).1
      refine .of ⟨_, fun X g => ?_, re_lrg2 (tu := tu) r1 r2⟩ trivial
      have q := prg_2 (p := p1) (pos := p2) (g.glo h2) (g.blt y (by decide +kernel)) (q1 X g) (q2 X g) (star_cons h3) (star_cons h4) (star_plain (by simp [h4]))
      cases tu with
      | true => exact pe_tupRg g.calm (g.glo h1) (g.blt y (by decide +kernel)) q rfl
      | false => exact pe_listRg g.calm (g.glo h1) (g.blt y (by decide +kernel)) q rfl
    · cases ok
  | .pop p, c, e, ok => by
    unfold okE at ok
    split at ok
    · rename_i x m ap cp
      simp only [Bool.and_eq_true, decide_eq_true_eq] at ok
      obtain ⟨⟨rfl, h1⟩, h2⟩ := ok
      obtain ⟨t1, p1, r1⟩ := sndP y p x h2
      refine .of ⟨_, fun X g => ?_, re_pop r1⟩ trivial
      have q := pe_bm0 (apos := ap) (cpos := cp) PySem.F.plainAttrs_list PySem.F.slot_list_pop PySem.F.type_list_pop (mt_pop (X := X)) (p1 X g) (path_base h2) h1
      rw [g.K] at q
      exact q
    · cases ok
  | .lc own tg it cond elt, c, e, ok => by
    unfold okE at ok
    split at ok
    · rename_i el t iter ifs scope pos
      simp only [Bool.and_eq_true, decide_eq_true_eq] at ok
      obtain ⟨⟨⟨⟨⟨⟨⟨h1, h2⟩, h3⟩, h4⟩, h5⟩, h6⟩, h7⟩, h8⟩ := ok
      obtain ⟨wi, pi, ri⟩ := sndI y it c t iter h2
      obtain ⟨g0, pg, rg⟩ := sndTg (Y := Y) tg (c.blk scope) t h3
      obtain ⟨⟨te, pe, re⟩, _⟩ := sndE y elt (c.blk scope) el h8
      have hc : ∃ tt, (∀ X, Gd Y (c.blk scope) X → PTs X ifs tt) ∧ RT Y cond tt := by
        split at h7
        · split at h7
          · refine ⟨tYes, fun X g => pts_nil, fun np sl σ H h rt vs F b rt' rl hv Q k => ?_⟩
            have hv := tst_eq hv
            unfold ev at hv
            cases hv
            exact k H h F Stp.refl rl fun _ => Same.refl _
          · cases h7
        · rename_i x
          obtain ⟨_, s1⟩ := sndE y cond (c.blk scope) x h7
          obtain ⟨u1, q1, w1⟩ := s1 h5
          exact ⟨u1, fun X g => pts_one (q1 X g).1, w1⟩
        · cases h7
      obtain ⟨tt, pt, rt⟩ := hc
      refine .of ⟨tLc wi g0 tt te own, fun X g => ?_, read_lc ri rg rt re h6 (by simpa using h4)⟩ trivial
      have eo : (ownOf c own).map (·.2) = own := by
        unfold ownOf
        rw [List.map_map]
        exact List.map_id' own
      have q := pe_lc (pos := pos) g.calm (by rw [g.N]; exact g.nd) (pi X g) (by rw [g.N, g.sc]; exact blkOk_by h1) (fun s H C cl fp => pg _ (g.blk s H scope C cl fp)) (fun s H C cl fp => pt _ (g.blk s H scope C cl fp)) (fun s H C cl fp => pe _ (g.blk s H scope C cl fp)) (fold_plain (okI_set h2))
      rw [eo] at q
      exact q
    · cases ok
theorem sndEs (y : Y.Ok) : ∀ (es : Es) (c : Ck) (xs : List Expr), okEs Y.I c es xs = true → SAs Y c es xs
  | .nil, c, xs, ok => by
    unfold okEs at ok
    split at ok
    · refine ⟨tNil, fun X g => pa_nil, fun np mv sl σ H h rt vs F ts rt' rl hv Q k => ?_⟩
      unfold evs at hv
      cases hv
      exact k [] H h F [] Stp.refl rl .nil (fun a z => absurd z (by simp)) (fun a z => absurd z (by simp)) fun _ => Same.refl _
    · cases ok
  | .cons e r, c, xs, ok => by
    unfold okEs at ok
    split at ok
    · rename_i x xs
      simp only [Bool.and_eq_true] at ok
      obtain ⟨te, pe, re⟩ := (sndE y e c x ok.1.2).1
      obtain ⟨t, p, rr⟩ := sndEs y r c xs ok.2
      refine ⟨tCons te t, fun X g => pa_cons (pe X g) (p X g) (star_cons ok.1.1), fun np mv sl σ H h rt vs F ts rt' rl hv Q k => ?_⟩
      unfold evs at hv
      split at hv
      · cases hv
      · rename_i x rt1 e1
        split at hv
        · cases hv
        · rename_i ts2 rt2 e2
          cases hv
          refine re np mv sl σ H h rt vs F _ _ rl e1 _ fun v H1 h1 F1 G st1 rl1 ow dj fr q1 => ?_
          refine rr np mv sl σ H1 h1 rt1 vs F1 ts2 _ rl1 e2 _ fun ws H2 h2 F2 G2 st2 rl2 ow2 dj2 fr2 q2 => ?_
          obtain ⟨ow3, dj3⟩ := st2.own ow dj
          refine k (v :: ws) H2 h2 F2 (G ++ G2) (st1.trans st2) rl2 (.cons ow3 ow2 fun a z z' => ?_) (fun a z => (List.mem_append.mp z).elim (dj3 a) (dj2 a)) (fun a z => (List.mem_append.mp z).elim (fr a) fun z => (fr2 a z).elim (st1.fp a) (st1.back a)) fun z => (q1 (and_tt z).1).trans (q2 (and_tt z).2)
          rcases fr2 a z' with w | w
          · exact dj a z w
          · obtain ⟨_, o, e⟩ := ow.at a z
            rw [w] at e
            cases e
    · cases ok
  | .mut i r, c, xs, ok => by
    unfold okEs at ok
    split at ok
    · rename_i x xs
      simp only [Bool.and_eq_true] at ok
      obtain ⟨te, pe, _⟩ := sndP y (.var i) x ok.1.2
      obtain ⟨t, p, rr⟩ := sndEs y r c xs ok.2
      refine ⟨tCons te t, fun X g => pa_cons (pe X g) (p X g) (star_cons ok.1.1), fun np mv sl σ H h rt vs F ts rt' rl hv Q k => ?_⟩
      unfold evs at hv
      cases hv
    · cases ok
theorem sndA (y : Y.Ok) : ∀ (es : Es) (c : Ck) (xs : List Expr), okEs Y.I c es xs = true → SAA Y c es xs
  | .nil, c, xs, ok => by
    unfold okEs at ok
    split at ok
    · exact ⟨tNil, fun X g => pa_nil, raa_nil⟩
    · cases ok
  | .cons e r, c, xs, ok => by
    unfold okEs at ok
    split at ok
    · rename_i x xs
      simp only [Bool.and_eq_true] at ok
      obtain ⟨te, pe, re⟩ := (sndE y e c x ok.1.2).1
      obtain ⟨t, p, rr⟩ := sndA y r c xs ok.2
      exact ⟨tCons te t, fun X g => pa_cons (pe X g) (p X g) (star_cons ok.1.1), raa_cons re rr⟩
    · cases ok
  | .mut i r, c, xs, ok => by
    unfold okEs at ok
    split at ok
    · rename_i x xs
      simp only [Bool.and_eq_true] at ok
      obtain ⟨n, pos, rfl, o1, o2, o3⟩ := okP_var ok.1.2
      obtain ⟨t, p, rr⟩ := sndA y r c xs ok.2
      exact ⟨tCons (tVar i) t, fun X g => pa_cons (g.var o1 o2 o3) (p X g) (star_cons ok.1.1), raa_mut rr⟩
    · cases ok
theorem sndK (y : Y.Ok) : ∀ (es : Es) (c : Ck) (xs : List Keyword), okKs Y.I c es xs = true → SKK Y c es xs
  | .nil, c, xs, ok => by
    unfold okKs at ok
    split at ok
    · exact ⟨tNil, fun X g => pk_nil, raa_nil⟩
    · cases ok
  | .cons e r, c, xs, ok => by
    unfold okKs at ok
    split at ok
    · rename_i x p0 xs
      simp only [Bool.and_eq_true] at ok
      obtain ⟨te, pe, re⟩ := (sndE y e c _ ok.1).1
      obtain ⟨t, p, rr⟩ := sndK y r c _ ok.2
      exact ⟨tCons te t, fun X g => pk_cons (pe X g) (p X g), raa_cons re rr⟩
    · cases ok
  | .mut i r, c, xs, ok => by
    unfold okKs at ok
    split at ok
    · simp only [Bool.and_eq_true] at ok
      obtain ⟨n, pos, rfl, o1, o2, o3⟩ := okP_var ok.1
      obtain ⟨t, p, rr⟩ := sndK y r c _ ok.2
      exact ⟨tCons (tVar i) t, fun X g => pk_cons (g.var o1 o2 o3) (p X g), raa_mut rr⟩
    · cases ok
theorem sndI (y : Y.Ok) : ∀ (it : It) (c : Ck) (t e : Expr), okI Y.I c it t e = true → SI Y c it t e
  | .rng1 a, c, t, e, ok => by
    unfold okI at ok
    split at ok
    · simp only [Bool.and_eq_true, decide_eq_true_eq] at ok
      obtain ⟨⟨⟨rfl, h1⟩, h2⟩, h3⟩ := ok
      obtain ⟨te, pe, re⟩ := (sndE y a c _ h3).1
      exact ⟨_, fun X g => pi_range1 (g.glo h1) (g.blt y (by decide +kernel)) (pa_one h2 (pe X g)) (star_cons h2), ri_rng1 re⟩
    · cases ok
  | .rng2 a b, c, t, e, ok => by
    unfold okI at ok
    split at ok
    · simp only [Bool.and_eq_true, decide_eq_true_eq] at ok
      obtain ⟨⟨⟨⟨⟨rfl, h1⟩, h2⟩, h3⟩, h4⟩, h5⟩ := ok
      obtain ⟨t1, p1, r1⟩ := (sndE y a c _ h4).1
      obtain ⟨t2, p2, r2⟩ := (sndE y b c _ h5).1
      exact ⟨_, fun X g => pi_range2 (g.glo h1) (g.blt y (by decide +kernel)) (pa_cons (p1 X g) (pa_one h3 (p2 X g)) (star_cons h2)) (starB h2 h3) (star_cons h3), ri_rng2 r1 r2⟩
    · cases ok
  | .seq a, c, t, e, ok => by
    unfold okI at ok
    obtain ⟨te, pe, re⟩ := (sndE y a c _ (and_tt ok).2).1
    refine ⟨_, fun X g => ?_, ri_seq re⟩
    have q := PI.or (tg := t) (pi_list (pe X g)) (pi_tup (pe X g))
    rw [g.K] at q
    exact q
  | .pth p, c, t, e, ok => by
    unfold okI at ok
    obtain ⟨te, pe, re⟩ := sndP y p e (and_tt ok).2
    refine ⟨_, fun X g => ?_, ri_pth re⟩
    have q := PI.or (tg := t) (pi_list (pe X g)) (pi_tup (pe X g))
    rw [g.K] at q
    exact q
  | .enum a, c, t, e, ok => by
    unfold okI at ok
    split at ok
    · rename_i x p z pos
      simp only [Bool.and_eq_true, decide_eq_true_eq] at ok
      obtain ⟨⟨⟨⟨rfl, h0⟩, h1⟩, h2⟩, h3⟩ := ok
      obtain ⟨te, pe, re⟩ := (sndE y a c _ h3).1
      cases t with
      | Tuple elts kk tpos =>
        refine ⟨_, fun X g => ?_, ri_enum re⟩
        have q := pi_enum (elts := elts) (kk := kk) (tpos := tpos) (p := p) (pos := pos) (g.glo h1) (g.blt y (by decide +kernel)) (pa_one h2 (pe X g)) (star_cons h2)
        rw [g.K] at q
        exact q
      | _ => cases h0
    · cases ok
  | .enumP a, c, t, e, ok => by
    unfold okI at ok
    split at ok
    · rename_i x p z pos
      simp only [Bool.and_eq_true, decide_eq_true_eq] at ok
      obtain ⟨⟨⟨⟨rfl, h0⟩, h1⟩, h2⟩, h3⟩ := ok
      obtain ⟨te, pe, re⟩ := sndP y a z h3
      cases t with
      | Tuple elts kk tpos =>
        refine ⟨_, fun X g => ?_, ri_enumP re⟩
        have q := pi_enum (elts := elts) (kk := kk) (tpos := tpos) (p := p) (pos := pos) (g.glo h1) (g.blt y (by decide +kernel)) (pa_one h2 (pe X g)) (star_cons h2)
        rw [g.K] at q
        exact q
      | _ => cases h0
    · cases ok
  | .zip a b, c, t, e, ok => by
    unfold okI at ok
    split at ok
    · rename_i x p z w pos
      simp only [Bool.and_eq_true, decide_eq_true_eq] at ok
      obtain ⟨⟨⟨⟨⟨⟨rfl, h0⟩, h1⟩, h2⟩, h3⟩, h4⟩, h5⟩ := ok
      obtain ⟨t1, p1, r1⟩ := (sndE y a c _ h4).1
      obtain ⟨t2, p2, r2⟩ := (sndE y b c _ h5).1
      cases t with
      | Tuple elts kk tpos =>
        refine ⟨_, fun X g => ?_, ri_zip r1 r2⟩
        have q := RZ.pi_zipA (elts := elts) (kk := kk) (tpos := tpos) (p := p) (pos := pos) (g.glo h1) (g.blt y (by decide +kernel)) (pa_cons (p1 X g) (pa_one h3 (p2 X g)) (star_cons h2)) (star_cons h2) (star_plain (by simp [h3]))
        rw [g.K] at q
        exact q
      | _ => cases h0
    · cases ok
end
end
end Mi
/-! MiSt: the check of statements; it is sound. -/
namespace Mi
open PySem PySem.Spec PyProof.Rows L2

/-! ### the check -/
def tgtOk (c : Ck) (i : Nat) (x : Str) : Bool := decide (c.N[i]? = some x) && (match c.sc.names.lookup x with | some .local => true | some .cell => c.fb x | _ => false)
def isLoc (c : Ck) (x : Str) : Bool := c.sc.names.lookup x == some .local
def swapB (c : Ck) (x : Str) (px : Pos) : Expr → Bool
  | .ListComp _ _ s p => isLoc c x && px.line == p.line && !(s.names.any fun (n, k) => n == x && (k == .local || k == .cell))
  | .SetComp _ _ _ _ => true
  | .DictComp _ _ _ _ _ => true
  | _ => false
def notComp : Expr → Bool
  | .ListComp _ _ _ _ => false
  | .SetComp _ _ _ _ => false
  | .DictComp _ _ _ _ _ => false
  | _ => true
def notTup : Expr → Bool
  | .Tuple _ _ _ => false
  | _ => true
def E.isLc : E → Bool
  | .lc _ _ _ _ _ => true
  | _ => false
mutual
def okS (I : Inf) (c : Ck) : St → Stmt → Bool
  | .asg i e, s => match s with | .Assign [.Name x px] v _ => tgtOk c i x && okE I c e v && (!(swapB c x px v) || e.isLc) | _ => false
  | .al i j, s => match s with | .Assign [.Name x _] (.Name z _) _ => tgtOk c i x && decide (c.N[j]? = some z) && vis c z && plainN z | _ => false
  | .par i j a b, s => match s with
    | .Assign [.Tuple [.Name x px, .Name y py] _ _] (.Tuple [va, vb] _ _) _ => decide (i ≠ j) && decide (c.N[i]? = some x) && decide (c.N[j]? = some y) && isLoc c x && isLoc c y && (py.line == px.line) && decide (x ≠ y) && noStar va && noStar vb &&
        !([va, vb].all (foldedForSure 8)) && !([va, vb].all (constantsAlone 8)) && okE I c a va && okE I c b vb
    | _ => false
  | .parN i j a b, s => match s with
    | .Assign [.Tuple [.Name x px, .Name y py] _ _] (.Tuple [va, vb] _ _) _ => tgtOk c i x && tgtOk c j y && (!(isLoc c x && isLoc c y && (py.line == px.line)) || [va, vb].all (foldedForSure 8)) && noStar va && noStar vb && okE I c a va && okE I c b vb
    | _ => false
  | .asgT tg e, s => match s with | .Assign [.Tuple es k p] v _ => okT c tg (.Tuple es k p) && notTup v && okE I c e v | _ => false
  | .setx p x e, s => match s with | .Assign [.Subscript o i _] v _ => okP I c p o && noSlice i && ok0 I c x i && okE I c e v | _ => false
  | .app p e, s => match s with | .Expr (.Call (.Attribute o m ap) [v] [] cp) _ => decide (m = ("append" : Str)) && (ap.endLine == cp.line) && okP I c p o && noStar v && okE I c e v | _ => false
  | .aug i op e, s => match s with | .AugAssign (.Name x _) o v _ => tgtOk c i x && opIs op o && okE I c e v | _ => false
  | .ex e, s => match s with | .Expr v _ => notComp v && okE I c e v | _ => false
  | .ite e a b, s => match s with | .If t p q _ => e.noIf && okE I c e t && okSs I c a p && okSs I c b q | _ => false
  | .fr tg it b, s => match s with | .For t iter body [] _ => it.clo && okI I c it t iter && okT c tg t && okSs I c b body | _ => false
  | .frV tg i b, s => match s with | .For t iter body [] _ => okP I c (.var i) iter && okT c tg t && okSs I c b body | _ => false
  | .wh e b, s => match s with | .While t body [] _ => e.noIf && okE I c e t && okSs I c b body | _ => false
  | .ret e, s => match s with | .Return (some v) _ => okE I c e v | _ => false
  | .retN, s => match s with | .Return none _ => true | _ => false
  | .brk, s => match s with | .Break _ => true | _ => false
  | .ct, s => match s with | .Continue _ => true | _ => false
  | .nop, s => match s with | .Pass _ => true | .Expr (.Constant (.str _) _ _) _ => true | _ => false
  | .never, _ => true
def okSs (I : Inf) (c : Ck) : Ss → List Stmt → Bool
  | .nil, xs => match xs with | [] => true | _ => false
  | .cons s r, xs => match xs with | x :: xs => okS I c s x && okSs I c r xs | _ => false
end
structure Gs (Y : Fx) (c : Ck) (X : Cx) : Prop extends Gd Y c X where
  kd : X.env.scope.kind = .function

section
variable {Y : Fx} {c : Ck} {X : Cx} {K : PySem.W.Frag} {C : Nat → Addr} {h H h1 H1 : Hp}
theorem Gs.bk (g : Gs Y c X) : X.env.blockKind = .function := by
  unfold Env.blockKind
  rw [g.kd]
  rfl
theorem tgt_ok (g : Gd Y c X) {i : Nat} {x : Str} (h : tgtOk c i x = true) : X.N[i]? = some x ∧ Loc X.env.scope x ∧ (X.fn x = true ∨ X.env.scope.names.lookup x = some .local) := by
  unfold tgtOk at h
  rw [Bool.and_eq_true] at h
  have hl : X.env.scope.names.lookup x = c.sc.names.lookup x := by rw [g.sc]
  refine ⟨by rw [g.N]; exact of_decide_eq_true h.1, ?_⟩
  have h2 := h.2
  split at h2
  · rename_i e
    exact ⟨.inl (hl.trans e), .inr (hl.trans e)⟩
  · rename_i e
    exact ⟨.inr (hl.trans e), .inl (g.fn x h2)⟩
  · cases h2
theorem swap_ok (g : Gs Y c X) {x : Str} {px : Pos} {v : Expr} {ln : Nat} (h : swapB c x px v = false) : swapsWith v (some (.Name x px)) ln X.env = pure false := by
  cases v with
  | ListComp a b s p =>
    have h : (isLoc c x && px.line == p.line && !(s.names.any fun (n, k) => n == x && (k == .local || k == .cell))) = false := h
    unfold isLoc at h
    show (pure (X.env.blockKind == .function && X.env.scope.names.lookup x == some .local && px.line == p.line && !(s.names.any fun (n, k) => n == x && (k == .local || k == .cell))) : Sem Bool) = pure false
    rw [g.bk, g.sc]
    have e : ((ScopeKind.function == ScopeKind.function) && c.sc.names.lookup x == some .local && px.line == p.line && !(s.names.any fun (n, k) => n == x && (k == .local || k == .cell))) = false := by
      rw [show (ScopeKind.function == ScopeKind.function) = true from rfl, Bool.true_and]
      exact h
    rw [e]
  | SetComp a b s p => cases h
  | DictComp a b s p q => cases h
  | _ => rfl
theorem swap_yes (g : Gs Y c X) {x : Str} {px : Pos} {el : Expr} {cs : List Comprehension} {s : Scope} {p : Pos} {ln : Nat} (h : swapB c x px (.ListComp el cs s p) = true) : swapsWith (.ListComp el cs s p) (some (.Name x px)) ln X.env = pure true := by
  have h : (isLoc c x && px.line == p.line && !(s.names.any fun (n, k) => n == x && (k == .local || k == .cell))) = true := h
  unfold isLoc at h
  show (pure (X.env.blockKind == .function && X.env.scope.names.lookup x == some .local && px.line == p.line && !(s.names.any fun (n, k) => n == x && (k == .local || k == .cell))) : Sem Bool) = pure true
  rw [g.bk, g.sc]
  have e : ((ScopeKind.function == ScopeKind.function) && c.sc.names.lookup x == some .local && px.line == p.line && !(s.names.any fun (n, k) => n == x && (k == .local || k == .cell))) = true := by
    rw [show (ScopeKind.function == ScopeKind.function) = true from rfl, Bool.true_and]
    exact h
  rw [e]
theorem swap_not {v : Expr} {ln : Nat} {t : Expr} {env : Env} (ht : match t with | .Name _ _ => False | _ => True) : swapsWith v (some t) ln env = pure false := by
  cases v <;> first | rfl | (cases t <;> first | rfl | exact ht.elim)
theorem swap_none {v : Expr} {ln : Nat} {env : Env} (h : notComp v = true) : swapsWith v none ln env = pure false := by
  cases v <;> first | rfl | cases h
theorem stores_none {es : List Expr} {k : Nat} {p : Pos} {v : Expr} {env : Env} (h : notTup v = true) : swappedStores [.Tuple es k p] v env = pure none := by
  cases v <;> first | rfl | cases h
theorem stores_sub {o i v : Expr} {p : Pos} {env : Env} : swappedStores [.Subscript o i p] v env = pure none := by
  cases v <;> rfl
theorem stores_par (g : Gs Y c X) {x y : Str} {px py pt p2 : Pos} {kt k2 : Nat} {a b : Expr} (h1 : isLoc c x = true) (h2 : isLoc c y = true) (h3 : (py.line == px.line) = true) (h4 : x ≠ y) (h5 : noStar a = true) (h6 : noStar b = true)
    (h7 : [a, b].all (foldedForSure 8) = false) (h8 : [a, b].all (constantsAlone 8) = false) : swappedStores [.Tuple [.Name x px, .Name y py] kt pt] (.Tuple [a, b] k2 p2) X.env = pure (some [x, y]) := by
  unfold isLoc at h1 h2
  have e1 : (X.env.kindOf x == some .local) = true := by
    show (X.env.scope.names.lookup x == some .local) = true
    rw [g.sc]; exact h1
  have e2 : (X.env.kindOf y == some .local) = true := by
    show (X.env.scope.names.lookup y == some .local) = true
    rw [g.sc]; exact h2
  have k1 : X.env.kindOf x = some .local := by simpa using e1
  have k2 : X.env.kindOf y = some .local := by simpa using e2
  have l : py.line = px.line := by simpa using h3
  have pn : (Expr.Name x px).pos = px := rfl
  have hd : ([x, y] : List Str).eraseDups = [x, y] := by
    have hb : (y == x) = false := beq_eq_false_iff_ne.mpr fun e => h4 e.symm
    rw [List.eraseDups_cons]
    simp [List.filter, hb, List.eraseDups_cons]
  unfold swappedStores
  simp only [h7, h8, g.bk]
  simp [k1, k2, l, pn, hd]
  intro h
  rcases h with h | h
  · split at h
    · cases h5
    · cases h
  · split at h
    · cases h6
    · cases h

theorem stores_mix (g : Gs Y c X) {x y : Str} {px py pt p2 : Pos} {kt k2 : Nat} {a b : Expr} (h : (!(isLoc c x && isLoc c y && (py.line == px.line)) || [a, b].all (foldedForSure 8)) = true) : swappedStores [.Tuple [.Name x px, .Name y py] kt pt] (.Tuple [a, b] k2 p2) X.env = pure none := by
  have pn : (Expr.Name x px).pos = px := rfl
  have e1 : (X.env.kindOf x == some .local) = isLoc c x := by
    show (X.env.scope.names.lookup x == some .local) = _
    rw [g.sc]; rfl
  have e2 : (X.env.kindOf y == some .local) = isLoc c y := by
    show (X.env.scope.names.lookup y == some .local) = _
    rw [g.sc]; rfl
  rw [Bool.or_eq_true] at h
  unfold swappedStores
  rcases h with h | h
  · have key : ¬ (X.env.kindOf x = some .local ∧ X.env.kindOf y = some .local ∧ py.line = px.line) := by
      rintro ⟨k1, k2, l⟩
      rw [← e1, ← e2, k1, k2, l] at h
      simp at h
    simp only [g.bk]
    simp
    intro _ _ hl
    exfalso
    revert hl
    by_cases k1 : X.env.kindOf x = some .local <;> by_cases k2 : X.env.kindOf y = some .local <;> by_cases l : py.line = px.line <;> simp [k1, k2, l, pn] <;> exact key ⟨k1, k2, l⟩
  · simp only [g.bk]
    simp at h
    simp [h]
/-! ### the home root -/
def Kept (np : Nat) (ss : List Nat) (vs vs' : List V) : Prop := (∀ k, (∀ j ∈ ss, k ≠ np + j) → vs'[k]? = vs[k]?) ∧ vs'.length = vs.length
theorem Kept.refl {np : Nat} {ss : List Nat} {vs : List V} : Kept np ss vs vs := ⟨fun _ _ => rfl, rfl⟩
theorem Kept.trans {np : Nat} {ss : List Nat} {a b c : List V} (x : Kept np ss a b) (y : Kept np ss b c) : Kept np ss a c := ⟨fun k n => (y.1 k n).trans (x.1 k n), y.2.trans x.2⟩
theorem Kept.sup {np : Nat} {ss zs : List Nat} {a b : List V} (x : Kept np ss a b) (s : ∀ j, j ∈ ss → j ∈ zs) : Kept np zs a b := ⟨fun k n => x.1 k fun j m => n j (s j m), x.2⟩
theorem Kept.take {np : Nat} {ss : List Nat} {a b : List V} (x : Kept np ss a b) : b.take np = a.take np := by
  apply List.ext_getElem?
  intro k
  rw [List.getElem?_take, List.getElem?_take]
  split
  · exact x.1 k fun j _ e => by omega
  · rfl
theorem usedBy_no {sl : Sl} {i k : Nat} : ∀ {n j : Nat}, usedBy sl i k n = false → j < n → j ≠ i → sl[j]? ≠ some (some (.r k))
  | 0, _, _, h, _ => absurd h (Nat.not_lt_zero _)
  | n + 1, j, u, h, d => by
    unfold usedBy at u
    rw [Bool.or_eq_false_iff] at u
    by_cases e : j = n
    · subst e
      intro z
      have u2 := u.2
      rw [z] at u2
      simp [d] at u2
    · exact usedBy_no u.1 (by omega) d
theorem Rel.cl {σ : L2.St} {sl : Sl} {rt : Rt} {vs : List V} {F : List Addr} (r : Rel K C σ H h sl rt vs F) : vs.length = rt.length := r.own.length
theorem store_ok' {np : Nat} {FF : Fs} {gg : List (Str × D)} {i : Nat} {t : T} {σ : L2.St} {sl sl' : Sl} {rt rt' : Rt} {vs : List V} {F G : List Addr} {v : V} (r : Rel K C σ H h sl rt vs F) (o : Own K C h H v t G) (dj : ∀ a, a ∈ G → a ∉ F)
    (e : store ⟨FF, np, gg⟩ i t sl rt = some (sl', rt')) : ∃ vs' F', Rel K C (σ.set i (some v)) H h sl' rt' vs' F' ∧ (∀ a, a ∈ F' → a ∈ F ∨ a ∈ G) ∧ Kept np [i] vs vs' := by
  unfold store at e
  split at e
  · rename_i hi
    split at e
    · cases e
      exact ⟨vs, F, r.set (s := .v _) (rep_d o) hi, fun a z => .inl z, .refl⟩
    · rename_i hn
      split at e
      · cases e
      · rename_i hu
        split at e
        · rename_i hl
          cases e
          obtain ⟨F', o', s'⟩ := r.own.put hl o dj
          refine ⟨vs.set (np + i) v, F', ⟨r.sub, o', fun j s e => ?_, by rw [List.length_set, List.length_set]; exact r.len⟩, s', ?_, List.length_set⟩
          · rw [List.getElem?_set] at e ⊢
            by_cases z : i = j
            · subst z
              rw [if_pos rfl, if_pos hi] at e
              cases e
              refine ⟨v, by rw [if_pos rfl, r.len, if_pos hi], ?_⟩
              show (vs.set (np + i) v)[np + i]? = some v
              rw [List.getElem?_set_self (by rw [r.cl]; exact hl)]
            · rw [if_neg z] at e ⊢
              obtain ⟨w, w1, w2⟩ := r.slt j s e
              refine ⟨w, w1, ?_⟩
              cases s with
              | v d => exact w2
              | r k =>
                have hj : j < sl.length := (List.getElem?_eq_some_iff.mp e).1
                have nk : np + i ≠ k := fun q => usedBy_no (by simpa using hu) hj (fun q => z q.symm) (q ▸ e)
                show (vs.set (np + i) v)[k]? = some w
                rw [List.getElem?_set_ne nk]
                exact w2
          · intro k n
            rw [List.getElem?_set_ne fun e => n i (List.mem_singleton.mpr rfl) e.symm]
        · cases e
  · cases e

/-! ### what is handed on -/
def SOk (Y : Fx) (np : Nat) (ss : List Nat) (H h : Hp) (vs : List V) (F : List Addr) (D : Ends) : Fl × Sl × Rt → Prop
  | (.nx, sl', rt') => ∀ σ' H' h' vs' F', Stp F h H F' h' H' → Rel Y.K Y.C σ' H' h' sl' rt' vs' F' → Kept np ss vs vs' → D.nx σ' H'
  | (.bk, sl', rt') => ∀ σ' H' h' vs' F', Stp F h H F' h' H' → Rel Y.K Y.C σ' H' h' sl' rt' vs' F' → Kept np ss vs vs' → D.bk σ' H'
  | (.ct, sl', rt') => ∀ σ' H' h' vs' F', Stp F h H F' h' H' → Rel Y.K Y.C σ' H' h' sl' rt' vs' F' → Kept np ss vs vs' → D.ct σ' H'
  | (.rt t, sl', rt') => ∀ v σ' H' h' vs' F' G, Stp F h H F' h' H' → Rel Y.K Y.C σ' H' h' sl' rt' vs' F' → Kept np ss vs vs' → Own Y.K Y.C h' H' v t G → (∀ a, a ∈ G → a ∉ F') → (∀ a, a ∈ G → a ∈ F ∨ H a = none) → D.rt v H'
theorem SOk.thn {np : Nat} {ss s1 s2 : List Nat} {vs vs1 : List V} {F F1 : List Addr} {D : Ends} {r : Fl × Sl × Rt} (k : SOk Y np ss H h vs F D r) (st : Stp F h H F1 h1 H1) (kp : Kept np s1 vs vs1) (i1 : ∀ j, j ∈ s1 → j ∈ ss) (i2 : ∀ j, j ∈ s2 → j ∈ ss) : SOk Y np s2 H1 h1 vs1 F1 D r := by
  obtain ⟨fl, sl', rt'⟩ := r
  cases fl with
  | nx => exact fun σ' H' h' vs' F' s2 rl k2 => k σ' H' h' vs' F' (st.trans s2) rl ((kp.sup i1).trans (k2.sup i2))
  | bk => exact fun σ' H' h' vs' F' s2 rl k2 => k σ' H' h' vs' F' (st.trans s2) rl ((kp.sup i1).trans (k2.sup i2))
  | ct => exact fun σ' H' h' vs' F' s2 rl k2 => k σ' H' h' vs' F' (st.trans s2) rl ((kp.sup i1).trans (k2.sup i2))
  | rt t => exact fun v σ' H' h' vs' F' G s2 rl k2 ow dj fr => k v σ' H' h' vs' F' G (st.trans s2) rl ((kp.sup i1).trans (k2.sup i2)) ow dj fun a z => (fr a z).elim (st.fp a) (st.back a)
def RS (Y : Fx) (s : St) (t : TS) : Prop := ∀ np σ H h sl rt vs F r, Rel Y.K Y.C σ H h sl rt vs F → ex (cfg Y np) s sl rt = some r → ∀ D, SOk Y np s.stores H h vs F D r → t D σ H
def RSs (Y : Fx) (s : Ss) (t : TS) : Prop := ∀ np σ H h sl rt vs F r, Rel Y.K Y.C σ H h sl rt vs F → exs (cfg Y np) s sl rt = some r → ∀ D, SOk Y np s.stores H h vs F D r → t D σ H
def SS (Y : Fx) (c : Ck) (s : St) (a : Stmt) : Prop := ∃ t, (∀ X, Gs Y c X → PS X a t) ∧ RS Y s t
def SSs (Y : Fx) (c : Ck) (s : Ss) (a : List Stmt) : Prop := ∃ t, (∀ X, Gs Y c X → PSs X a t) ∧ RSs Y s t
end
end Mi
/-! MiStm: statements that write; loops. -/
namespace Mi
open PySem PySem.Spec PyProof.Rows L2
section
variable {Y : Fx} {c : Ck} {X : Cx} {K : PySem.W.Frag} {C : Nat → Addr} {h H h' H' : Hp}

/-! ### a simple value: nothing is touched -/
theorem evq_ok {cc : Cfg} {sl : Sl} {rt : Rt} : ∀ {e : E} {d : D}, evq sl rt e = some d → ev cc false sl e rt = some (.cl d, rt) ∧ e.q = true
  | .int i, d, hv => by
    unfold evq at hv; cases hv
    exact ⟨by unfold ev; rfl, rfl⟩
  | .bl i, d, hv => by
    unfold evq at hv; cases hv
    exact ⟨by unfold ev; rfl, rfl⟩
  | .non, d, hv => by
    unfold evq at hv; cases hv
    exact ⟨by unfold ev; rfl, rfl⟩
  | .str i, d, hv => by
    unfold evq at hv; cases hv
    exact ⟨by unfold ev; rfl, rfl⟩
  | .get p, d, hv => by
    unfold evq at hv
    split at hv
    · rename_i d' hp
      cases hv
      exact ⟨by unfold ev; rw [hp], rfl⟩
    · cases hv
  | .bin op a b, d, hv => by
    unfold evq at hv
    split at hv
    · rename_i x z e1 e2
      split at hv
      · rename_i w e3
        cases hv
        obtain ⟨a1, a2⟩ := evq_ok (cc := cc) e1
        obtain ⟨b1, b2⟩ := evq_ok (cc := cc) e2
        refine ⟨?_, by unfold E.q; rw [a2, b2]; rfl⟩
        unfold ev
        rw [a1]
        simp only
        rw [b1]
        simp only
        show (opB op x z).map _ = _
        rw [e3]
        rfl
      · cases hv
    · cases hv
  | .neg a, d, hv => by
    unfold evq at hv
    split at hv
    · rename_i i e1
      cases hv
      obtain ⟨a1, a2⟩ := evq_ok (cc := cc) e1
      refine ⟨?_, a2⟩
      unfold ev
      rw [a1]
    · cases hv
  | .x x, d, hv => by
    unfold evq at hv
    exact ⟨by unfold ev; rw [hv], rfl⟩
  | .tup (.cons a (.cons b .nil)), d, hv => by
    unfold evq at hv
    split at hv
    · rename_i x z e1 e2
      cases hv
      obtain ⟨a1, a2⟩ := evq_ok (cc := cc) e1
      obtain ⟨b1, b2⟩ := evq_ok (cc := cc) e2
      refine ⟨?_, by show (a.q && (b.q && true)) = true; rw [a2, b2]; rfl⟩
      unfold ev evs
      rw [a1]
      simp only
      unfold evs
      rw [b1]
      simp only
      unfold evs
      simp only
      exact if_pos (show 2 ≤ sizeLine by decide)
    · cases hv
  | .glb _, d, hv => by cases hv
  | .cmp _ _ _, d, hv => by cases hv
  | .emp _ _, d, hv => by cases hv
  | .and _ _, d, hv => by cases hv
  | .or _ _, d, hv => by cases hv
  | .not _, d, hv => by cases hv
  | .ife _ _ _, d, hv => by cases hv
  | .tup .nil, d, hv => by cases hv
  | .tup (.mut _ _), d, hv => by cases hv
  | .tup (.cons _ .nil), d, hv => by cases hv
  | .tup (.cons _ (.mut _ _)), d, hv => by cases hv
  | .tup (.cons _ (.cons _ (.cons _ _))), d, hv => by cases hv
  | .tup (.cons _ (.cons _ (.mut _ _))), d, hv => by cases hv
  | .lst _, d, hv => by cases hv
  | .ix _ _, d, hv => by cases hv
  | .sl _ _ _, d, hv => by cases hv
  | .rev _, d, hv => by cases hv
  | .at _ _, d, hv => by cases hv
  | .call _ _ _ _, d, hv => by cases hv
  | .f1 _ _, d, hv => by cases hv
  | .f1p _ _, d, hv => by cases hv
  | .f2 _ _ _, d, hv => by cases hv
  | .pop _, d, hv => by cases hv
  | .lrg1 _ _, d, hv => by cases hv
  | .lrg2 _ _ _, d, hv => by cases hv
  | .lc _ _ _ _ _, d, hv => by cases hv
mutual
theorem Own.big (e : Same H H') : ∀ {v : V} {t : T} {F : List Addr}, Own K C h H v t F → ∀ {G : List Addr}, Own K C h' H' v t G → F = G
  | _, _, _, .cl _, _, .cl _ => rfl
  | _, _, _, .ls q _ r _, _, .ls q' _ r' _ => by
    rw [e _ _ q] at q'
    cases q'
    rw [Owns.big e r r']
  | _, _, _, .dc q _ _ r _, _, .dc q' _ _ r' _ => by
    rw [e _ _ q] at q'
    cases q'
    rw [Owns.big e r r']
  | _, _, _, .ob q _ _ r _, _, .ob q' _ _ r' _ => by
    rw [e _ _ q] at q'
    cases q'
    rw [Owns.big e r r']
theorem Owns.big (e : Same H H') : ∀ {vs : List V} {ts : List T} {F : List Addr}, Owns K C h H vs ts F → ∀ {G : List Addr}, Owns K C h' H' vs ts G → F = G
  | _, _, _, .nil, _, .nil => rfl
  | _, _, _, .cons p r _, _, .cons p' r' _ => by rw [Own.big e p p', Owns.big e r r']
end
theorem OwnR.big (e : Same H H') : ∀ {vs : List V} {ts : Rt} {F : List Addr}, OwnR K C h H vs ts F → ∀ {G : List Addr}, OwnR K C h' H' vs ts G → F = G
  | _, _, _, .nil, _, .nil => rfl
  | _, _, _, .no r, _, .no r' => OwnR.big e r r'
  | _, _, _, .cons p r _, _, .cons p' r' _ => by rw [Own.big e p p', OwnR.big e r r']
/-- a path still leads where it led -/
theorem AtP.big {σ : L2.St} {sl : Sl} {rt : Rt} {vs : List V} {F F' : List Addr} {p : P} {v : V} {u : T} (a : AtP Y σ H h sl rt vs F p v u) (r : Rel Y.K Y.C σ H h sl rt vs F) (r' : Rel Y.K Y.C σ H' h' sl rt vs F') (e : Same H H') (e2 : Same h h') :
    AtP Y σ H' h' sl rt vs F' p v u := by
  have ef := r.own.big e r'.own
  subst ef
  obtain ⟨F1, ⟨o, s, w⟩, inn⟩ := a
  have keep : ∀ a, a ∈ F → H' a = H a := fun a z => by
    obtain ⟨_, o, q⟩ := r.own.at a z
    exact (e a o q).trans q.symm
  refine ⟨F1, ⟨o.stay e2 fun a z => ⟨keep a (s a z), (r'.own.at a (s a z)).1⟩, s, fun h2 H2 t' F2 s2 fr o2 nw => ?_⟩, fun a z k tk vk Fk e1 e3 e4 o4 => ?_⟩
  · refine w h2 H2 t' F2 (e2.trans s2) (fun a z n => ?_) o2 nw
    obtain ⟨a1, a2⟩ := fr a z n
    exact ⟨a1.trans (keep a z), a2⟩
  · obtain ⟨vk', Fk', F'', e5, o5, _, s5, _, _⟩ := r.own.take1 e3
    rw [e4] at e5
    cases e5
    have := o5.big e o4
    subst this
    exact inn a z k tk vk _ e1 e3 e4 o5

/-! ### one place written -/
theorem Owns.put : ∀ {vs : List V} {ts : List T} {F G : List Addr} {j : Nat} {v : V} {t : T}, Owns K C h H vs ts F → j < ts.length → Own K C h H v t G → (∀ a, a ∈ G → a ∉ F) →
    ∃ F', Owns K C h H (vs.set j v) (ts.set j t) F' ∧ ∀ a, a ∈ F' → a ∈ F ∨ a ∈ G
  | _, _, _, G, 0, _, _, .cons (F := F0) (G := G0) p r _, _, o, dj => ⟨G ++ G0, .cons o r fun a z z' => dj a z (List.mem_append_right _ z'), fun a z => (List.mem_append.mp z).symm.imp (fun q => List.mem_append_right _ q) id⟩
  | _, _, _, G, k + 1, _, _, .cons (F := F0) (G := G0) p r d0, l, o, dj => by
    obtain ⟨F', w, z⟩ := Owns.put (j := k) r (by simpa using l) o fun a y y' => dj a y (List.mem_append_right _ y')
    refine ⟨F0 ++ F', .cons p w fun a y y' => ?_, fun a y => ?_⟩
    · rcases z a y' with q | q
      · exact d0 a y q
      · exact dj a q (List.mem_append_left _ y)
    · rcases List.mem_append.mp y with y | y
      · exact .inl (List.mem_append_left _ y)
      · exact (z a y).imp (fun q => List.mem_append_right _ q) id
theorem map_out {kvs : List (Key × V)} {k : Key} {v : V} (n : k ∉ kvs.map (·.1)) : kvs.map (fun kv => if kv.1 = k then (kv.1, v) else kv) = kvs := by
  induction kvs with
  | nil => rfl
  | cons x r ih =>
    rw [List.map_cons, List.mem_cons, not_or] at n
    rw [List.map_cons, ih n.2, if_neg fun e => n.1 e.symm]
theorem putK_cons_ne {k' k : Key} {w v : V} {r : List (Key × V)} (n : k' ≠ k) : putK ((k', w) :: r) k v = (k', w) :: putK r k v := by
  unfold putK
  rw [List.any_cons]
  have e : decide (k' = k) = false := decide_eq_false n
  rw [e, Bool.false_or]
  split
  · rw [List.map_cons, if_neg n]
  · rfl
theorem putK_cons_eq {k : Key} {w v : V} {r : List (Key × V)} (n : k ∉ r.map (·.1)) : putK ((k, w) :: r) k v = (k, v) :: r := by
  unfold putK
  rw [List.any_cons, decide_eq_true rfl, Bool.true_or, if_pos rfl, List.map_cons, if_pos rfl, map_out n]
theorem Owns.putK : ∀ {kvs : List (Key × V)} {ts : List T} {F G : List Addr} {k : Key} {v : V} {t : T} {r : List Key × List T}, Owns K C h H (kvs.map (·.2)) ts F → putOne k t (kvs.map (·.1)) ts = some r → Own K C h H v t G → (∀ a, a ∈ G → a ∉ F) →
    ∃ F', (L2.putK kvs k v).map (·.1) = r.1 ∧ Owns K C h H ((L2.putK kvs k v).map (·.2)) r.2 F' ∧ ∀ a, a ∈ F' → a ∈ F ∨ a ∈ G
  | [], _, _, G, k, v, t, r, .nil, e, o, dj => by
    cases e
    exact ⟨G ++ [], rfl, .cons o .nil (fun a z => by simp), fun a z => .inr (by simpa using z)⟩
  | (k', w) :: kvs, _, _, G, k, v, t, r, .cons (ts := ts) (F := F0) (G := G0) p os d0, e, o, dj => by
    rw [List.map_cons] at e
    unfold putOne at e
    split at e
    · rename_i hk
      have hk : k' = k := hk
      subst hk
      split at e
      · cases e
      · rename_i hc
        cases e
        rw [putK_cons_eq fun m => hc (List.any_eq_true.mpr ⟨_, m, decide_eq_true rfl⟩)]
        exact ⟨G ++ G0, rfl, .cons o os fun a z z' => dj a z (List.mem_append_right _ z'), fun a z => (List.mem_append.mp z).symm.imp (fun q => List.mem_append_right _ q) id⟩
    · rename_i hk
      obtain ⟨q, e1, rfl⟩ := Option.map_eq_some_iff.mp e
      obtain ⟨F', a1, a2, a3⟩ := Owns.putK os e1 o fun a y y' => dj a y (List.mem_append_right _ y')
      rw [putK_cons_ne hk]
      refine ⟨F0 ++ F', by rw [List.map_cons, a1], .cons p a2 fun a y y' => ?_, fun a y => ?_⟩
      · rcases a3 a y' with q | q
        · exact d0 a y q
        · exact dj a q (List.mem_append_left _ y)
      · rcases List.mem_append.mp y with y | y
        · exact .inl (List.mem_append_left _ y)
        · exact (a3 a y).imp (fun q => List.mem_append_right _ q) id
/-- a part of the roots, its own top object written -/
theorem write_at {σ : L2.St} {sl : Sl} {rt rt' : Rt} {vs : List V} {F F1 G F2 : List Addr} {p : P} {a : Addr} {o : HO} {u t' : T} (r : Rel Y.K Y.C σ H h sl rt vs F)
    (pr : Part Y.K Y.C h H F (.ref a) u F1 fun t' h' H' F' => ∀ rt', upP sl rt p t' = some rt' → OwnR Y.K Y.C h' H' vs rt' F') (aF : a ∈ F1) (ow : Own Y.K Y.C h (upd H a o) (.ref a) t' F2) (sub : ∀ b, b ∈ F2 → b ∈ F1 ∨ b ∈ G) (dj : ∀ b, b ∈ G → b ∉ F)
    (fr : ∀ b, b ∈ G → ∃ o, H b = some o) (e : upP sl rt p t' = some rt') : ∃ F', Rel Y.K Y.C σ (upd H a o) h sl rt' vs F' ∧ (∀ b, b ∈ F' → b ∈ F ∨ b ∈ G) ∧ Stp (F ++ G) h H F' h (upd H a o) := by
  obtain ⟨_, s1, w⟩ := pr
  obtain ⟨F', w1, w2⟩ := w h (upd H a o) t' F2 (Same.refl _) (fun b m n => ⟨upd_ne fun e => n (e ▸ aF), (r.own.at b m).1⟩) ow fun b m => (sub b m).imp id (dj b)
  have s2 : ∀ b, b ∈ F' → b ∈ F ∨ b ∈ G := fun b m => (w2 b m).elim .inl fun m => (sub b m).imp (s1 b) id
  have na : h a = none := (r.own.at a (s1 a aF)).1
  refine ⟨F', ⟨fun b ob e => ?_, w1 rt' e, r.slt, r.len⟩, s2, fun b ob e n => ?_, Same.refl _, fun b ob n e => ?_, fun b m => .inl (List.mem_append.mpr (s2 b m))⟩
  · rw [upd_ne fun e' => by rw [e', na] at e; cases e]
    exact r.sub b ob e
  · have hb : b ≠ a := fun e' => n (List.mem_append_left _ (by rw [e']; exact s1 a aF))
    rw [upd_ne hb]
    exact e
  · rw [n] at e
    cases e
theorem Stp.with {F F1 F2 G : List Addr} {h1 h2 H1 H2 : Hp} (x : Stp F h H F1 h1 H1) (y : Stp (F1 ++ G) h1 H1 F2 h2 H2) (fr : ∀ a, a ∈ G → a ∈ F ∨ H a = none) : Stp F h H F2 h2 H2 := by
  have b1 : ∀ a, a ∈ F1 ++ G → a ∈ F ∨ H a = none := fun a z => (List.mem_append.mp z).elim (x.fp a) (fr a)
  refine ⟨fun a o e n => y.keep a o (x.keep a o e n) fun z => ?_, fun a o e => y.up a o (x.up a o e), fun a o n e => ?_, fun a z => ?_⟩
  · rcases b1 a z with q | q
    · exact n q
    · rw [q] at e; cases e
  · cases q : h1 a with
    | some u => exact x.new a u n q
    | none => exact (y.new a o q e).elim (b1 a) (x.back a)
  · exact (y.fp a z).elim (b1 a) (x.back a)
theorem PSet.or {t t' : TSet} (ha : PSet X t) (hb : PSet X t') : PSet X (fun o i v H Q => t o i v H Q ∨ t' o i v H Q) := by
  intro pins s σ H o i v ov iv u Q I ro ri rv h
  rcases h with h | h
  · exact ha pins s σ H o i v ov iv u Q I ro ri rv h
  · exact hb pins s σ H o i v ov iv u Q I ro ri rv h
theorem rs_setx {p : P} {x : X0} {e : E} {te to ti : TE} (re : RE Y e te) (rp : ∀ sl rt, TPs Y sl rt p to) (rx : ∀ sl rt, TXs Y sl rt x ti) : RS Y (.setx p x e) (tAsg te (gSub to ti fun o i v H Q => rSetL o i v H Q ∨ rSetD o i v H Q)) := by
  intro np σ H h sl rt vs F r rl hv D k
  unfold ex at hv
  split at hv
  · cases hv
  · rename_i t rt1 e1
    split at hv
    · rename_i u i hp hx
      split at hv
      · cases hv
      · rename_i u' hu
        obtain ⟨rt2, e2, e3⟩ := Option.map_eq_some_iff.mp hv
        cases e3
        refine re np false sl σ H h rt vs F _ _ rl e1 _ fun v H1 h1 F1 G st1 rl1 ow dj fr q1 => ?_
        refine rp sl rt1 σ H1 h1 vs F1 rl1 _ hp _ fun o at0 => ?_
        refine rx sl rt1 σ H1 h1 vs F1 rl1 _ hx _ fun w rw' => ?_
        obtain ⟨F0, pr, inn⟩ := at0
        clear inn
        have o0 := pr.1
        have frH : ∀ b, b ∈ G → ∃ o, H1 b = some o := fun b m => (ow.at b m).2
        cases u with
        | ls ts =>
          cases i with
          | int i =>
            cases rw'
            obtain ⟨j, j1, j2⟩ := Option.map_eq_some_iff.mp hu
            subst j2
            cases o0 with
            | ls q n os na =>
              rename_i a xs F2
              have hj := (ixN_seq j1).2.1
              have naG : a ∉ G := fun m => dj a m (pr.2.1 a List.mem_cons_self)
              have djG : ∀ b, b ∈ G → b ∉ F2 := fun b m m' => dj b m (pr.2.1 b (List.mem_cons_of_mem _ m'))
              have os1 : Owns Y.K Y.C h1 (upd H1 a (.lst (xs.set j v))) xs ts F2 := os.stay (Same.refl _) fun b m => ⟨upd_ne fun e => na (e ▸ m), (os.at b m).1⟩
              have ow1 : Own Y.K Y.C h1 (upd H1 a (.lst (xs.set j v))) v t G := ow.stay (Same.refl _) fun b m => ⟨upd_ne fun e => naG (e ▸ m), (ow.at b m).1⟩
              obtain ⟨F3, o3, s3⟩ := os1.put hj ow1 djG
              have na3 : a ∉ F3 := fun m => (s3 a m).elim na naG
              obtain ⟨F4, rl4, s4, st4⟩ := write_at (F2 := a :: F3) (G := G) rl1 pr List.mem_cons_self (.ls upd_same n o3 na3) (fun b m => (List.mem_cons.mp m).elim (fun e => .inl (by rw [e]; exact List.mem_cons_self)) fun m => (s3 b m).imp (fun m => List.mem_cons_of_mem _ m) id) dj frH e2
              exact .inl ⟨a, xs, i, j, rfl, rfl, q, by rw [os.length]; exact j1, k σ _ h1 vs F4 (st1.with st4 fr) rl4 .refl⟩
          | _ => cases hu
        | dc ks ts =>
          have hu : (i.key.bind fun k => if ks.length < sizeLine then (putOne k t ks ts).map fun r => T.dc r.1 r.2 else none) = some u' := hu
          obtain ⟨kk, k1, k2⟩ := Option.bind_eq_some_iff.mp hu
          split at k2
          · rename_i hz
            obtain ⟨r0, r1, r2⟩ := Option.map_eq_some_iff.mp k2
            subst r2
            cases o0 with
            | dc q n hk os na =>
              rename_i a kvs F2
              subst hk
              have naG : a ∉ G := fun m => dj a m (pr.2.1 a List.mem_cons_self)
              have djG : ∀ b, b ∈ G → b ∉ F2 := fun b m m' => dj b m (pr.2.1 b (List.mem_cons_of_mem _ m'))
              have os1 : Owns Y.K Y.C h1 (upd H1 a (.dK (L2.putK kvs kk v))) (kvs.map (·.2)) ts F2 := os.stay (Same.refl _) fun b m => ⟨upd_ne fun e => na (e ▸ m), (os.at b m).1⟩
              have ow1 : Own Y.K Y.C h1 (upd H1 a (.dK (L2.putK kvs kk v))) v t G := ow.stay (Same.refl _) fun b m => ⟨upd_ne fun e => naG (e ▸ m), (ow.at b m).1⟩
              obtain ⟨F3, ek, o3, s3⟩ := os1.putK r1 ow1 djG
              have na3 : a ∉ F3 := fun m => (s3 a m).elim na naG
              obtain ⟨F4, rl4, s4, st4⟩ := write_at (F2 := a :: F3) (G := G) rl1 pr List.mem_cons_self (.dc upd_same n ek o3 na3) (fun b m => (List.mem_cons.mp m).elim (fun e => .inl (by rw [e]; exact List.mem_cons_self)) fun m => (s3 b m).imp (fun m => List.mem_cons_of_mem _ m) id) dj frH e2
              refine .inr ⟨a, _, rfl, ?_, k σ _ h1 vs F4 (st1.with st4 fr) rl4 .refl⟩
              rw [key_ok rw' k1]
              exact DPut.k q (by simpa using hz)
          · cases k2
        | cl d => cases hu
        | ob cc ns ts => cases hu
    · cases hv
theorem app_fin {p : P} {σ : L2.St} {sl : Sl} {rt rt' : Rt} {vs : List V} {F G : List Addr} {o v : V} {ts : List T} {t : T} (rl : Rel Y.K Y.C σ H h sl rt vs F) (at0 : AtP Y σ H h sl rt vs F p o (.ls ts)) (ow : Own Y.K Y.C h H v t G) (dj : ∀ a, a ∈ G → a ∉ F)
    (hz : ts.length < sizeLine) (e : upP sl rt p (.ls (ts ++ [t])) = some rt') : ∃ a xs F', o = .ref a ∧ H a = some (.lst xs) ∧ xs.length < sizeLine ∧ Rel Y.K Y.C σ (upd H a (.lst (xs ++ [v]))) h sl rt' vs F' ∧ Stp (F ++ G) h H F' h (upd H a (.lst (xs ++ [v]))) := by
  obtain ⟨F0, pr, inn⟩ := at0
  clear inn
  have o0 := pr.1
  cases o0 with
  | ls q n os na =>
    rename_i a xs F2
    have naG : a ∉ G := fun m => dj a m (pr.2.1 a List.mem_cons_self)
    have djG : ∀ b, b ∈ G → b ∉ F2 := fun b m m' => dj b m (pr.2.1 b (List.mem_cons_of_mem _ m'))
    have os1 : Owns Y.K Y.C h (upd H a (.lst (xs ++ [v]))) xs ts F2 := os.stay (Same.refl _) fun b m => ⟨upd_ne fun e => na (e ▸ m), (os.at b m).1⟩
    have ow1 : Own Y.K Y.C h (upd H a (.lst (xs ++ [v]))) v t G := ow.stay (Same.refl _) fun b m => ⟨upd_ne fun e => naG (e ▸ m), (ow.at b m).1⟩
    obtain ⟨F3, o3, s3⟩ := os1.append1 ow1 djG
    have na3 : a ∉ F3 := fun m => (s3 a m).elim na naG
    obtain ⟨F4, rl4, s4, st4⟩ := write_at (F2 := a :: F3) (G := G) rl pr List.mem_cons_self (.ls upd_same n o3 na3) (fun b m => (List.mem_cons.mp m).elim (fun e => .inl (by rw [e]; exact List.mem_cons_self)) fun m => (s3 b m).imp (fun m => List.mem_cons_of_mem _ m) id) dj (fun b m => (ow.at b m).2) e
    exact ⟨a, xs, F4, rfl, q, by rw [os.length]; exact hz, rl4, st4⟩
/-- what a name reads is its slot's value -/
theorem var_at {i : Nat} {σ : L2.St} {sl : Sl} {rt : Rt} {vs : List V} {F : List Addr} {u : T} {v : V} (rl : Rel Y.K Y.C σ H h sl rt vs F) (e : σ[i]? = some (some v)) (hp : pt sl rt (.var i) = some u) : AtP Y σ H h sl rt vs F (.var i) v u := by
  unfold pt at hp
  split at hp
  · rename_i d hs
    cases hp
    obtain ⟨w, w1, w2⟩ := rl.slt i _ hs
    rw [e] at w1
    cases w1
    refine ⟨[], ⟨.cl w2, fun a z => absurd z (by simp), fun h' H' t' F2 s fr o nw => ⟨F, fun rt' hr => ?_, fun a z => .inl z⟩⟩, fun a z => absurd z (by simp)⟩
    unfold upP at hr
    rw [hs] at hr
    cases hr
  · rename_i k hs
    obtain ⟨w, w1, w2⟩ := rl.slt i _ hs
    rw [e] at w1
    cases w1
    split at hp
    · rename_i t ht
      cases hp
      obtain ⟨vk, F1, e1, pr⟩ := rl.own.get ht
      have w2 : vs[k]? = some v := w2
      rw [w2] at e1
      cases e1
      refine ⟨F1, pr.mono (fun a z => z) (fun h' H' t' F2 F' _ _ x y _ => ⟨F', fun rt' hr => ?_, y⟩), fun a z k' tk vk Fk e2 e3 e4 o4 => ?_⟩
      · unfold upP at hr
        rw [hs] at hr
        simp only at hr
        split at hr
        · cases hr
          exact x
        · cases hr
      · have e2 : sl[i]? = some (some (.r k')) := e2
        rw [hs] at e2
        cases e2
        rw [ht] at e3
        cases e3
        rw [w2] at e4
        cases e4
        rw [o4.uniq pr.1]
        exact z
    · cases hp
  · cases hp
theorem rs_appV {i : Nat} {e : E} {te : TE} (re : RE Y e te) : RS Y (.app (.var i) e) (tDrop (tBM Y.K "list" rAppend (tVar i) (tCons te tNil))) := by
  intro np σ H h sl rt vs F r rl hv D k
  unfold ex at hv
  split at hv
  · rename_i ts0 hp0
    split at hv
    · cases hv
    · rename_i t rt1 e1
      have e1 : ev (cfg Y np) false sl e rt = some (t, rt1) := e1
      split at hv
      · rename_i ts hp
        split at hv
        · rename_i hz
          obtain ⟨rt2, e2, e3⟩ := Option.map_eq_some_iff.mp hv
          cases e3
          have hs : ∃ s, sl[i]? = some (some s) := by
            unfold pt at hp0
            split at hp0
            · rename_i hs; exact ⟨_, hs⟩
            · rename_i hs; exact ⟨_, hs⟩
            · cases hp0
          obtain ⟨s0, hs⟩ := hs
          obtain ⟨v, v1, _⟩ := rl.slt i _ hs
          refine ⟨v, v1, ?_, ?_⟩
          · obtain ⟨F0, pr, _⟩ := var_at rl v1 hp0
            cases pr.1 with
            | ls q n os na => exact .inl ⟨rfl, _, SqL.of q⟩
          · refine re np false sl σ H h rt vs F _ _ rl e1 _ fun w H1 h1 F1 G st1 rl1 ow dj fr q1 => ?_
            obtain ⟨a, xs, F4, rfl, q, hl, rl4, st4⟩ := app_fin rl1 (var_at rl1 v1 hp) ow dj hz e2
            exact ⟨a, xs, w, rfl, rfl, q, hl, k σ _ h1 vs F4 (st1.with st4 fr) rl4 .refl⟩
        · cases hv
      · cases hv
  · cases hv
theorem rs_appP {p : P} {e : E} {te to : TE} (hn : p.isVar = false) (re : RE Y e te) (rp : ∀ sl rt, TPs Y sl rt p to) : RS Y (.app p e) (tDrop (tBM Y.K "list" rAppend to (tCons te tNil))) := by
  intro np σ H h sl rt vs F r rl hv D k
  unfold ex at hv
  rw [hn] at hv
  split at hv
  · rename_i ts0 hp0
    split at hv
    · cases hv
    · rename_i t rt1 e1
      have e1 : (evq sl rt e).map (fun d => (T.cl d, rt)) = some (t, rt1) := e1
      obtain ⟨d, e4, e5⟩ := Option.map_eq_some_iff.mp e1
      cases e5
      split at hv
      · rename_i ts hp
        split at hv
        · rename_i hz
          obtain ⟨rt2, e2, e3⟩ := Option.map_eq_some_iff.mp hv
          cases e3
          obtain ⟨b1, b2⟩ := evq_ok (cc := cfg Y np) e4
          refine rp sl rt σ H h vs F rl _ hp _ fun o at0 => ⟨?_, ?_⟩
          · obtain ⟨F0, pr, _⟩ := at0
            cases pr.1 with
            | ls q n os na => exact .inl ⟨rfl, _, SqL.of q⟩
          · refine re np false sl σ H h rt vs F _ _ rl b1 _ fun w H1 h1 F1 G st1 rl1 ow dj fr q1 => ?_
            obtain ⟨a, xs, F4, rfl, q, hl, rl4, st4⟩ := app_fin rl1 (at0.big rl rl1 (q1 b2) st1.up) ow dj hz e2
            exact ⟨a, xs, w, rfl, rfl, q, hl, k σ _ h1 vs F4 (st1.with st4 fr) rl4 .refl⟩
        · cases hv
      · cases hv
  · cases hv
end
end Mi
/-! MiSts: the check of statements is sound; a def's body. -/
namespace Mi
open PySem PySem.Spec PyProof.Rows L2
section
variable {Y : Fx} {c : Ck} {X : Cx} {h H h' H' : Hp}
theorem lc_parts (y : Y.Ok) {own : List Nat} {tg : Tg} {it : It} {cond elt : E} {c : Ck} {a : Expr} (ok : okE Y.I c (.lc own tg it cond elt) a = true) :
    ∃ el t iter ifs scope pos wi g0 tt te, a = .ListComp el [⟨t, iter, ifs, 0⟩] scope pos ∧ blkC c.N c.sc scope (ownOf c own) = true ∧ (∀ X, Gd Y c X → PI X t iter wi) ∧ (∀ X, Gd Y (c.blk scope) X → PG X t g0) ∧ (∀ X, Gd Y (c.blk scope) X → PTs X ifs tt) ∧
      (∀ X, Gd Y (c.blk scope) X → PE X el te) ∧ noSet iter = true ∧ (ownOf c own).map (·.2) = own ∧ RE Y (.lc own tg it cond elt) (tLc wi g0 tt te own) := by
  unfold okE at ok
  split at ok
  · rename_i el t iter ifs scope pos
    simp only [Bool.and_eq_true, decide_eq_true_eq] at ok
    obtain ⟨⟨⟨⟨⟨⟨⟨h1, h2⟩, h3⟩, h4⟩, h5⟩, h6⟩, h7⟩, h8⟩ := ok
    obtain ⟨wi, pi, ri⟩ := sndI y it c t iter h2
    obtain ⟨g0, pg, rg⟩ := sndTg (Y := Y) tg (c.blk scope) t h3
    obtain ⟨⟨te, pe, re⟩, _⟩ := sndE y elt (c.blk scope) el h8
    have hc : ∃ tt, (∀ X, Gd Y (c.blk scope) X → PTs X ifs tt) ∧ RT Y cond tt := by
      split at h7
      · split at h7
        · refine ⟨tYes, fun X g => pts_nil, fun np sl σ H h rt vs F b rt' rl hv Q k => ?_⟩
          have hv := tst_eq hv
          unfold ev at hv
          cases hv
          exact k H h F Stp.refl rl fun _ => Same.refl _
        · cases h7
      · rename_i x
        obtain ⟨_, s1⟩ := sndE y cond (c.blk scope) x h7
        obtain ⟨u1, q1, w1⟩ := s1 h5
        exact ⟨u1, fun X g => pts_one (q1 X g).1, w1⟩
      · cases h7
    obtain ⟨tt, pt, rt⟩ := hc
    refine ⟨el, t, iter, ifs, scope, pos, wi, g0, tt, te, rfl, h1, pi, pg, pt, pe, okI_set h2, ?_, read_lc ri rg rt re h6 (by simpa using h4)⟩
    unfold ownOf
    rw [List.map_map]
    exact List.map_id' own
  · cases ok
theorem rs_asg {i : Nat} {e : E} {te : TE} (re : RE Y e te) : RS Y (.asg i e) (tAsg te (gName i)) := by
  intro np σ H h sl rt vs F r rl hv D k
  unfold ex at hv
  split at hv
  · cases hv
  · rename_i t rt1 e1
    obtain ⟨⟨sl2, rt2⟩, e2, e3⟩ := Option.map_eq_some_iff.mp hv
    cases e3
    refine re np false sl σ H h rt vs F _ _ rl e1 _ fun v H1 h1 F1 G st1 rl1 ow dj fr q1 => ?_
    obtain ⟨vs', F', rl2, s2, kp⟩ := store_ok' rl1 ow dj e2
    refine k _ H1 h1 vs' F' (st1.with (G := G) ⟨fun a o e n => e, Same.refl _, fun a o n e => ?_, fun a z => .inl (List.mem_append.mpr (s2 a z))⟩ fr) rl2 kp
    rw [n] at e
    cases e
theorem rs_al {i j : Nat} : RS Y (.al i j) (tAsg (tVar j) (gName i)) := by
  intro np σ H h sl rt vs F r rl hv D k
  unfold ex at hv
  split at hv
  · rename_i s e1
    split at hv
    · rename_i hi
      cases hv
      obtain ⟨v, v1, v2⟩ := rl.slt j _ e1
      exact ⟨v, v1, k _ H h vs F Stp.refl (rl.set v2 hi) .refl⟩
    · cases hv
  · cases hv
theorem rs_par {i j : Nat} {a b : E} {ta tb : TE} (ra : RE Y a ta) (rb : RE Y b tb) (hij : i ≠ j) : RS Y (.par i j a b) (tPar i j (tCons ta (tCons tb tNil))) := by
  intro np σ H h sl rt vs F r rl hv D k
  unfold ex at hv
  split at hv
  · cases hv
  · rename_i x rt1 e1
    split at hv
    · cases hv
    · rename_i z rt2 e2
      split at hv
      · cases hv
      · rename_i sl3 rt3 e3
        obtain ⟨⟨sl4, rt4⟩, e4, e5⟩ := Option.map_eq_some_iff.mp hv
        cases e5
        refine ra np false sl σ H h rt vs F _ _ rl e1 _ fun v H1 h1 F1 G st1 rl1 ow dj fr q1 => ?_
        refine rb np false sl σ H1 h1 rt1 vs F1 _ _ rl1 e2 _ fun w H2 h2 F2 G2 st2 rl2 ow2 dj2 fr2 q2 => ?_
        obtain ⟨ow3, dj3⟩ := st2.own ow dj
        have dG : ∀ a, a ∈ G → a ∉ G2 := fun a z z' => by
          rcases fr2 a z' with q | q
          · exact dj a z q
          · obtain ⟨_, o, e⟩ := ow.at a z
            rw [q] at e
            cases e
        obtain ⟨vs3, F3, rl3, s3, kp3⟩ := store_ok' rl2 ow2 dj2 e3
        obtain ⟨vs4, F4, rl4, s4, kp4⟩ := store_ok' rl3 ow3 (fun a z z' => (s3 a z').elim (dj3 a z) (dG a z)) e4
        refine ⟨v, w, rfl, ?_⟩
        have cm := (List.set_comm (some v) (some w) (l := σ) hij)
        rw [cm]
        refine k _ H2 h2 vs4 F4 ((st1.trans st2).with (G := G ++ G2) ⟨fun a o e n => e, Same.refl _, fun a o n e => ?_, fun a z => .inl ?_⟩ fun a z => ?_) rl4 ((kp3.sup fun j m => (List.mem_singleton.mp m) ▸ List.mem_cons_self).trans (kp4.sup fun j m => (List.mem_singleton.mp m) ▸ List.mem_cons_of_mem _ (List.mem_singleton.mpr rfl)))
        · rw [n] at e
          cases e
        · rcases s4 a z with q | q
          · rcases s3 a q with q | q
            · exact List.mem_append_left _ q
            · exact List.mem_append_right _ (List.mem_append_right _ q)
          · exact List.mem_append_right _ (List.mem_append_left _ q)
        · rcases List.mem_append.mp z with z | z
          · exact fr a z
          · exact (fr2 a z).elim (st1.fp a) (st1.back a)
theorem rs_parN {i j : Nat} {a b : E} {ta tb : TE} (ra : RE Y a ta) (rb : RE Y b tb) : RS Y (.parN i j a b) (tAsg (tTup (tCons ta (tCons tb tNil))) (gTup Y.K 2 (gCons (gName i) (gCons (gName j) gNil)))) := by
  intro np σ H h sl rt vs F r rl hv D k
  unfold ex at hv
  split at hv
  · cases hv
  · rename_i x rt1 e1
    split at hv
    · cases hv
    · rename_i z rt2 e2
      split at hv
      · cases hv
      · rename_i sl3 rt3 e3
        obtain ⟨⟨sl4, rt4⟩, e4, e5⟩ := Option.map_eq_some_iff.mp hv
        cases e5
        refine ra np false sl σ H h rt vs F _ _ rl e1 _ fun v H1 h1 F1 G st1 rl1 ow dj fr q1 => ?_
        refine rb np false sl σ H1 h1 rt1 vs F1 _ _ rl1 e2 _ fun w H2 h2 F2 G2 st2 rl2 ow2 dj2 fr2 q2 => ?_
        obtain ⟨ow3, dj3⟩ := st2.own ow dj
        have dG : ∀ a, a ∈ G → a ∉ G2 := fun a z z' => by
          rcases fr2 a z' with q | q
          · exact dj a z q
          · obtain ⟨_, o, e⟩ := ow.at a z
            rw [q] at e
            cases e
        refine ⟨(show 2 ≤ sizeLine by decide), fun p hp => ⟨p, [v, w], rfl, SqT.of upd_same, rfl, v, [w], rfl, w, [], rfl, rfl, ?_⟩⟩
        have g0 : Grew h2 H2 h2 (upd H2 p (.tup [v, w])) := upd_grew0 rl2.sub hp
        have up : ∀ {u : V} {t : T} {Z : List Addr}, Own Y.K Y.C h2 H2 u t Z → Own Y.K Y.C h2 (upd H2 p (.tup [v, w])) u t Z := fun o => o.stay (Same.refl _) fun a z => by
          obtain ⟨n, oo, e⟩ := o.at a z
          exact ⟨upd_ne (ne_of_none e hp), n⟩
        obtain ⟨vs3, F3, rl3, s3, kp3⟩ := store_ok' (g0.rel rl2) (up ow3) dj3 e3
        obtain ⟨vs4, F4, rl4, s4, kp4⟩ := store_ok' rl3 (up ow2) (fun a z z' => (s3 a z').elim (dj2 a z) fun q => dG a q z) e4
        refine k _ _ h2 vs4 F4 (((st1.trans st2).trans (g0.stp (F := F2))).with (G := G ++ G2) ⟨fun a o e n => e, Same.refl _, fun a o n e => ?_, fun a z => .inl ?_⟩ fun a z => ?_) rl4 ((kp3.sup fun j m => (List.mem_singleton.mp m) ▸ List.mem_cons_self).trans (kp4.sup fun j m => (List.mem_singleton.mp m) ▸ List.mem_cons_of_mem _ (List.mem_singleton.mpr rfl)))
        · rw [n] at e
          cases e
        · rcases s4 a z with q | q
          · rcases s3 a q with q | q
            · exact List.mem_append_left _ q
            · exact List.mem_append_right _ (List.mem_append_left _ q)
          · exact List.mem_append_right _ (List.mem_append_right _ q)
        · rcases List.mem_append.mp z with z | z
          · exact fr a z
          · exact (fr2 a z).elim (st1.fp a) (st1.back a)
theorem rs_asgT {tg : Tg} {e : E} {te : TE} {g : TG} (re : RE Y e te) (rg : RG Y tg g) : RS Y (.asgT tg e) (tAsg te g) := by
  intro np σ H h sl rt vs F r rl hv D k
  unfold ex at hv
  split at hv
  · cases hv
  · rename_i t rt1 e1
    obtain ⟨sl2, e2, e3⟩ := Option.map_eq_some_iff.mp hv
    cases e3
    refine re.d rl e1 fun v H1 h1 F1 st1 rl1 r1 q1 => ?_
    exact rg σ H1 h1 sl _ vs F1 v t.d sl2 rl1 r1 e2 _ fun σ' rl2 _ => k σ' H1 h1 vs F1 st1 rl2 .refl
def ipF (op : BOp) : Int → Int → Int := match op with | .sub => fun i j => i - j | _ => fun i j => i + j
theorem rs_aug {i : Nat} {op : BOp} {e : E} {te : TE} (re : RE Y e te) : RS Y (.aug i op e) (tAug i te (ipI (ipF op))) := by
  intro np σ H h sl rt vs F r rl hv D k
  unfold ex at hv
  split at hv
  · rename_i a hs
    obtain ⟨v, v1, v2⟩ := rl.slt i _ hs
    have v2 : Rep Y.K Y.C h v (.int a) := v2
    cases v2
    have fin : ∀ (b z : Int) (rt1 : Rt), ev (cfg Y np) false sl e rt = some (.cl (.int b), rt1) → ipF op a b = z → (store (cfg Y np) i (.cl (.int z)) sl rt1).map (fun p => (Fl.nx, p)) = some r → tAug i te (ipI (ipF op)) D σ H := fun b z rt1 e1 hz hv => by
      obtain ⟨⟨sl2, rt2⟩, e2, e3⟩ := Option.map_eq_some_iff.mp hv
      cases e3
      refine ⟨.int a, v1, re.d rl e1 fun w H1 h1 F1 st1 rl1 r1 q1 => ?_⟩
      cases r1
      obtain ⟨vs', F', rl2, s2, kp⟩ := store_ok' (v := V.int z) rl1 (.cl (.int z)) (fun a z => absurd z (by simp)) e2
      refine ⟨a, b, rfl, rfl, ?_⟩
      rw [hz]
      refine k _ H1 h1 vs' F' (st1.with (G := []) ⟨fun a o e n => e, Same.refl _, fun a o n e => ?_, fun a z => .inl (List.mem_append.mpr (s2 a z))⟩ fun a z => absurd z (by simp)) rl2 kp
      rw [n] at e
      cases e
    split at hv
    · rename_i b rt1 e1
      split at hv
      · exact fin b _ rt1 e1 rfl hv
      · exact fin b _ rt1 e1 rfl hv
      · cases hv
    · cases hv
  · cases hv
theorem rs_ex {e : E} {te : TE} (re : RE Y e te) : RS Y (.ex e) (tDrop te) := by
  intro np σ H h sl rt vs F r rl hv D k
  unfold ex at hv
  split at hv
  · cases hv
  · rename_i t rt1 e1
    cases hv
    exact re.d rl e1 fun v H1 h1 F1 st1 rl1 r1 q1 => k σ H1 h1 vs F1 st1 rl1 .refl
theorem rs_ret {e : E} {te : TE} (re : RE Y e te) : RS Y (.ret e) (tRet te) := by
  intro np σ H h sl rt vs F r rl hv D k
  unfold ex at hv
  split at hv
  · cases hv
  · rename_i t rt1 e1
    cases hv
    exact re np true sl σ H h rt vs F _ _ rl e1 _ fun v H1 h1 F1 G st1 rl1 ow dj fr q1 => k v σ H1 h1 vs F1 G st1 rl1 .refl ow dj fr
theorem rs_ite {e : E} {a b : Ss} {tc : TT} {t u : TS} (rc : RT Y e tc) (ra : RSs Y a t) (rb : RSs Y b u) : RS Y (.ite e a b) (tIfS tc t u) := by
  intro np σ H h sl rt vs F r rl hv D k
  unfold ex at hv
  split at hv
  · cases hv
  · rename_i rt1 e1
    refine rc np sl σ H h rt vs F true rt1 rl e1 _ fun H1 h1 F1 st1 rl1 q1 => ?_
    rw [if_pos rfl]
    exact ra np σ H1 h1 sl rt1 vs F1 r rl1 hv D (k.thn (s1 := []) st1 .refl (fun j m => by cases m) fun j m => List.mem_append_left _ m)
  · rename_i rt1 e1
    refine rc np sl σ H h rt vs F false rt1 rl e1 _ fun H1 h1 F1 st1 rl1 q1 => ?_
    rw [if_neg Bool.false_ne_true]
    exact rb np σ H1 h1 sl rt1 vs F1 r rl1 hv D (k.thn (s1 := []) st1 .refl (fun j m => by cases m) fun j m => List.mem_append_right _ m)
theorem rs_wh {e : E} {b : Ss} {tc : TT} {u : TS} (rc : RT Y e tc) (rb : RSs Y b u) : RS Y (.wh e b) (tWhile tc u) := by
  intro np σ H h sl rt vs F r rl hv D k
  unfold ex at hv
  refine ⟨fun m σ' H' => ∃ h' F' vs' sl' rt', Stp F h H F' h' H' ∧ Rel Y.K Y.C σ' H' h' sl' rt' vs' F' ∧ Kept np b.stores vs vs' ∧ whGo (fun sl rt => tstOf (ev (cfg Y np) false sl e rt)) (fun sl rt => exs (cfg Y np) b sl rt) m sl' rt' = some r, ⟨whMax, h, F, vs, sl, rt, Stp.refl, rl, .refl, hv⟩, ?_⟩
  rintro m σ1 H1 ⟨h1, F1, vs1, sl1, rt1, st1, rl1, kp1, go⟩
  cases m with
  | zero =>
    unfold whGo at go
    cases go
  | succ m =>
    unfold whGo at go
    split at go
    · cases go
    · rename_i rt2 e1
      cases go
      refine rc np sl1 σ1 H1 h1 rt1 vs1 F1 false _ rl1 e1 _ fun H2 h2 F2 st2 rl2 q2 => ?_
      rw [if_neg Bool.false_ne_true]
      exact k σ1 H2 h2 vs1 F2 (st1.trans st2) rl2 kp1
    · rename_i rt2 e1
      refine rc np sl1 σ1 H1 h1 rt1 vs1 F1 true _ rl1 e1 _ fun H2 h2 F2 st2 rl2 q2 => ?_
      rw [if_pos rfl]
      refine ⟨fun σ' H' => ∃ h' F' vs' sl' rt', Stp F h H F' h' H' ∧ Rel Y.K Y.C σ' H' h' sl' rt' vs' F' ∧ Kept np b.stores vs vs' ∧ whGo (fun sl rt => tstOf (ev (cfg Y np) false sl e rt)) (fun sl rt => exs (cfg Y np) b sl rt) m sl' rt' = some r, fun σ' H' p => ⟨m, Nat.lt_succ_self m, p⟩, ?_⟩
      have st := st1.trans st2
      split at go
      · rename_i sl3 rt3 e3
        exact rb np σ1 H2 h2 sl1 rt2 vs1 F2 _ rl2 e3 _ fun σ' H' h' vs' F' st3 rl3 kp3 => ⟨h', F', vs', sl3, rt3, st.trans st3, rl3, kp1.trans kp3, go⟩
      · rename_i sl3 rt3 e3
        exact rb np σ1 H2 h2 sl1 rt2 vs1 F2 _ rl2 e3 _ fun σ' H' h' vs' F' st3 rl3 kp3 => ⟨h', F', vs', sl3, rt3, st.trans st3, rl3, kp1.trans kp3, go⟩
      · rename_i sl3 rt3 e3
        cases go
        exact rb np σ1 H2 h2 sl1 rt2 vs1 F2 _ rl2 e3 _ fun σ' H' h' vs' F' st3 rl3 kp3 => k σ' H' h' vs' F' (st.trans st3) rl3 (kp1.trans kp3)
      · rename_i t sl3 rt3 e3
        cases go
        exact rb np σ1 H2 h2 sl1 rt2 vs1 F2 _ rl2 e3 _ fun v σ' H' h' vs' F' G st3 rl3 kp3 ow dj fr => k v σ' H' h' vs' F' G (st.trans st3) rl3 (kp1.trans kp3) ow dj fun a z => (fr a z).elim (st.fp a) (st.back a)
      · cases go
theorem rs_fr {tg : Tg} {it : It} {b : Ss} {wi : TI} {g : TG} {u : TS} (ri : RI Y it wi) (rg : RG Y tg g) (rb : RSs Y b u) (hq : it.clo = true) : RS Y (.fr tg it b) (tFor wi g u) := by
  intro np σ H h sl rt vs F r rl hv D k
  unfold ex at hv
  split at hv
  · cases hv
  · rename_i xs rt1 e1
    refine ri np sl σ H h rt vs F xs rt1 rl e1 _ fun J H1 h1 F1 S st1 rl1 wk s1 clo q1 => ?_
    let P : Nat → L2.St → Hp → Prop := fun i σ' H' => ∃ h' F' vs' sl' rt', Stp F h H F' h' H' ∧ Rel Y.K Y.C σ' H' h' sl' rt' vs' F' ∧ Kept np b.stores vs vs' ∧ S h' H' ∧ forGo (fun sl x => bind sl tg x) (fun sl rt => exs (cfg Y np) b sl rt) (xs.drop i) sl' rt' = some r
    refine ⟨fun i m σ' H' => m = xs.length - i ∧ i ≤ xs.length ∧ P i σ' H', ⟨xs.length, by simp, Nat.zero_le _, h1, F1, vs, sl, rt1, st1, rl1, .refl, s1, hv⟩, ?_⟩
    rintro i m σ2 H2 ⟨rfl, hi, h2, F2, vs2, sl2, rt2, st2, rl2, kp2, s2, go⟩
    by_cases hlt : i < xs.length
    · right
      refine ⟨wk.go i h2 H2 s2 rl2.sub hlt, P (i + 1), fun σ' H' p => ⟨xs.length - (i + 1), by omega, rfl, hlt, p⟩, fun x H3 hy => ?_⟩
      obtain ⟨d, h3, d1, g3, d2⟩ := wk.yl i h2 H2 x H3 s2 rl2.sub hy hlt
      have rl3 := g3.rel rl2
      have hd : xs.drop i = d :: xs.drop (i + 1) := by
        obtain ⟨hh, he⟩ := List.getElem?_eq_some_iff.mp d1
        rw [List.drop_eq_getElem_cons hh, he]
      rw [hd] at go
      unfold forGo at go
      split at go
      · cases go
      · rename_i sl4 e4
        refine rg σ2 H3 h3 sl2 rt2 vs2 F2 x d sl4 rl3 d2 e4 _ fun σ4 rl4 w4 => ?_
        have st := st2.trans (g3.stp (F := F2))
        have sc : ∀ h' H' F', Stp F2 h3 H3 F' h' H' → Rel Y.K Y.C σ4 H3 h3 sl4 rt2 vs2 F2 → Same h' H' → S h' H' := fun h' H' F' st' _ sb => clo hq h2 H2 h' H' s2 (g3.sml.trans st'.up) sb
        split at go
        · rename_i sl5 rt5 e5
          exact rb np σ4 H3 h3 sl4 rt2 vs2 F2 _ rl4 e5 _ fun σ' H' h' vs' F' st5 rl5 kp5 => ⟨h', F', vs', sl5, rt5, st.trans st5, rl5, kp2.trans kp5, sc h' H' F' st5 rl4 rl5.sub, go⟩
        · rename_i sl5 rt5 e5
          exact rb np σ4 H3 h3 sl4 rt2 vs2 F2 _ rl4 e5 _ fun σ' H' h' vs' F' st5 rl5 kp5 => ⟨h', F', vs', sl5, rt5, st.trans st5, rl5, kp2.trans kp5, sc h' H' F' st5 rl4 rl5.sub, go⟩
        · rename_i sl5 rt5 e5
          cases go
          exact rb np σ4 H3 h3 sl4 rt2 vs2 F2 _ rl4 e5 _ fun σ' H' h' vs' F' st5 rl5 kp5 => k σ' H' h' vs' F' (st.trans st5) rl5 (kp2.trans kp5)
        · rename_i t sl5 rt5 e5
          cases go
          exact rb np σ4 H3 h3 sl4 rt2 vs2 F2 _ rl4 e5 _ fun v σ' H' h' vs' F' G st5 rl5 kp5 ow dj fr => k v σ' H' h' vs' F' G (st.trans st5) rl5 (kp2.trans kp5) ow dj fun a z => (fr a z).elim (st.fp a) (st.back a)
        · cases go
    · left
      have e : i = xs.length := by omega
      subst e
      rw [List.drop_length] at go
      unfold forGo at go
      cases go
      exact ⟨wk.stop h2 H2 s2 rl2.sub, k σ2 H2 h2 vs2 F2 st2 rl2 kp2⟩
theorem lst_ok {v : V} {t : T} {F : List Addr} {xs : List D} (hs : Same h H) (o : Own Y.K Y.C h H v t F) (e : t.lst = some xs) : ∃ a vs, v = .ref a ∧ SqL Y.K H a vs ∧ Reps Y.K Y.C h vs xs := by
  unfold T.lst at e
  split at e
  · cases e
    have r1 := rep_d o
    cases r1 with
    | lst q s => exact ⟨_, _, rfl, SqL.of (hs _ _ q), s⟩
  · cases o with
    | ls q n os na =>
      obtain ⟨s, _⟩ := leaves_ok os e
      exact ⟨_, _, rfl, SqL.of q, s⟩
  · cases e
theorem rs_frV {tg : Tg} {i : Nat} {b : Ss} {g : TG} {u : TS} (rg : RG Y tg g) (rb : RSs Y b u) : RS Y (.frV tg i b) (tFor (iList Y.K (tVar i)) g u) := by
  intro np σ H h sl rt vs F r rl hv D k
  unfold ex at hv
  split at hv
  · rename_i kk hs
    split at hv
    · rename_i hk
      have hk : ∀ j ∈ b.stores, kk ≠ np + j := fun j m => by
        have := List.all_eq_true.mp hk j m
        have this : ¬ kk = (cfg Y np).np + j := by simpa using this
        exact this
      split at hv
      · rename_i t ht
        split at hv
        · rename_i xs hx
          obtain ⟨v, v1, v2⟩ := rl.slt i _ hs
          have v2 : vs[kk]? = some v := v2
          obtain ⟨w, F1, w1, pr⟩ := rl.own.get ht
          rw [v2] at w1
          cases w1
          obtain ⟨a, ws, rfl, q, rr⟩ := lst_ok rl.sub pr.1 hx
          refine ⟨.ref a, v1, a, rfl, ⟨ws, q⟩, ?_⟩
          let P : Nat → Nat → L2.St → Hp → Prop := fun j m σ' H' => ∃ h' F' vs' sl' rt', Stp F h H F' h' H' ∧ Rel Y.K Y.C σ' H' h' sl' rt' vs' F' ∧ Kept np b.stores vs vs' ∧ forGoV (fun sl x => bind sl tg x) (fun sl rt => exs (cfg Y np) b sl rt) i kk xs.length m j sl' rt' = some r
          refine ⟨fun j m σ' H' => j + m = xs.length ∧ P j m σ' H', ⟨xs.length, Nat.zero_add _, h, F, vs, sl, rt, Stp.refl, rl, .refl, hv⟩, ?_⟩
          rintro j m σ2 H2 ⟨hj, h2, F2, vs2, sl2, rt2, st2, rl2, kp2, go⟩
          have hv2 : vs2[kk]? = some (.ref a) := (kp2.1 kk hk).trans v2
          have now : ∀ {t2 : T} {ys : List Mi.D}, rt2[kk]? = some (some t2) → t2.lst = some ys → ∃ us, SqL Y.K H2 a us ∧ Reps Y.K Y.C h2 us ys := fun e1 e2 => by
            obtain ⟨z, F3, z1, z2⟩ := rl2.own.get e1
            rw [hv2] at z1
            cases z1
            obtain ⟨a', us, e3, q3, r3⟩ := lst_ok rl2.sub z2.1 e2
            cases e3
            exact ⟨us, q3, r3⟩
          cases m with
          | zero =>
            left
            unfold forGoV at go
            split at go
            · rename_i t2 ht2
              split at go
              · rename_i ys hys
                split at go
                · rename_i hlen
                  cases go
                  obtain ⟨us, q3, r3⟩ := now ht2 hys
                  refine ⟨⟨us, q3, ?_⟩, k σ2 H2 h2 vs2 F2 st2 rl2 kp2⟩
                  rw [r3.length, hlen]
                  omega
                · cases go
              · cases go
            · cases go
          | succ m =>
            right
            unfold forGoV at go
            split at go
            · rename_i t2 ht2
              split at go
              · rename_i ys hys
                split at go
                · rename_i hlen
                  obtain ⟨us, q3, r3⟩ := now ht2 hys
                  have hlt : j < ys.length := by omega
                  obtain ⟨x0, hx0⟩ := reps_in r3 hlt
                  refine ⟨⟨us, x0, q3, hx0⟩, P (j + 1) m, fun σ' H' p => ⟨m, Nat.lt_succ_self m, by omega, p⟩, fun x H3 hy => ?_⟩
                  obtain ⟨e3, e4⟩ := hy
                  subst e3
                  obtain ⟨d, d1, d2⟩ := reps_at r3 (e4 us q3)
                  rw [d1] at go
                  simp only at go
                  split at go
                  · cases go
                  · rename_i sl4 e5
                    refine rg σ2 _ h2 sl2 rt2 vs2 F2 x d sl4 rl2 d2 e5 _ fun σ4 rl4 w4 => ?_
                    split at go
                    · rename_i sl5 rt5 e6
                      exact rb np σ4 _ h2 sl4 rt2 vs2 F2 _ rl4 e6 _ fun σ' H' h' vs' F' st5 rl5 kp5 => ⟨h', F', vs', sl5, rt5, st2.trans st5, rl5, kp2.trans kp5, go⟩
                    · rename_i sl5 rt5 e6
                      exact rb np σ4 _ h2 sl4 rt2 vs2 F2 _ rl4 e6 _ fun σ' H' h' vs' F' st5 rl5 kp5 => ⟨h', F', vs', sl5, rt5, st2.trans st5, rl5, kp2.trans kp5, go⟩
                    · rename_i sl5 rt5 e6
                      cases go
                      exact rb np σ4 _ h2 sl4 rt2 vs2 F2 _ rl4 e6 _ fun σ' H' h' vs' F' st5 rl5 kp5 => k σ' H' h' vs' F' (st2.trans st5) rl5 (kp2.trans kp5)
                    · rename_i t sl5 rt5 e6
                      cases go
                      exact rb np σ4 _ h2 sl4 rt2 vs2 F2 _ rl4 e6 _ fun v σ' H' h' vs' F' G st5 rl5 kp5 ow dj fr => k v σ' H' h' vs' F' G (st2.trans st5) rl5 (kp2.trans kp5) ow dj fun a z => (fr a z).elim (st2.fp a) (st2.back a)
                    · cases go
                · cases go
              · cases go
            · cases go
        · cases hv
      · cases hv
    · cases hv
  · cases hv

/-! ### the whole -/
theorem never (g : Gd Y c X) : PassesOwn (model X.prog X.w) X.A X.env X.xe := by rw [g.xe]; exact PassesOwn.never
theorem few {v : Expr} {cpos : Pos} {env : Env} (h : noStar v = true) : ((backTo cpos (starEach [v] env)).all (fun x => !x.1) && (backToKw cpos (keywordEach [] env)).all (fun x => x.1.isSome)
      && decide (([v] : List Expr).length + ([] : List Keyword).length + (if ([] : List Keyword).isEmpty then 0 else 1) < 30)) = true := by
  rw [star_cons h]
  rfl
theorem pe_app {x v : Expr} {ap cp : Pos} {to te : TE} (hb : attributeBase x "append" X.env (eval x X.env) = eval x X.env) (hl : (ap.endLine == cp.line) = true) (hs : noStar v = true) (po : PE X x to) (pv : PE X v te) :
    PE X (.Call (.Attribute x "append" ap) [v] [] cp) (tBM X.K "list" rAppend to (tCons te tNil)) :=
  pe_bm PySem.F.plainAttrs_list PySem.F.slot_list_append PySem.F.type_list_append mt_append po (pa_one hs pv) hb (few hs) hl (star_cons hs) rfl
mutual
theorem sndS (y : Y.Ok) : ∀ (s : St) (c : Ck) (a : Stmt), okS Y.I c s a = true → SS Y c s a
  | .asg i e, c, a, ok => by
    unfold okS at ok
    split at ok
    · rename_i x px v pos
      simp only [Bool.and_eq_true, Bool.or_eq_true, Bool.not_eq_true'] at ok
      obtain ⟨⟨h1, h2⟩, h3⟩ := ok
      by_cases hs : swapB c x px v = false
      · obtain ⟨te, pe, re⟩ := (sndE y e c v h2).1
        refine ⟨_, fun X g => ?_, rs_asg re⟩
        obtain ⟨t1, t2, t3⟩ := tgt_ok g.toGd h1
        exact ps_set (by rw [g.N]; exact g.nd) t1 t2 (pe X g.toGd) (swap_ok g hs) t3
      · have hs : swapB c x px v = true := by simpa using hs
        rw [hs] at h3
        have h3 : e.isLc = true := by simpa using h3
        cases e with
        | lc own tg it cond elt =>
          obtain ⟨el, t, iter, ifs, scope, p2, wi, g0, tt, te, rfl, b1, b2, b3, b4, b5, b6, b7, b8⟩ := lc_parts y h2
          refine ⟨_, fun X g => ?_, rs_asg b8⟩
          obtain ⟨t1, t2, t3⟩ := tgt_ok g.toGd h1
          have hl : X.env.scope.names.lookup x = some .local := by
            have hs : (isLoc c x && px.line == p2.line && !(scope.names.any fun (n, k) => n == x && (k == .local || k == .cell))) = true := hs
            have := (and_tt (and_tt hs).1).1
            unfold isLoc at this
            rw [g.sc]
            simpa using this
          have q := ps_setLc (py := px) (spos := pos) (pos := p2) g.calm (by rw [g.N]; exact g.nd) t1 hl (swap_yes g hs) (b2 X g.toGd) (by rw [g.N, g.sc]; exact blkOk_by b1) (fun s H C cl fp => b3 _ (g.toGd.blk s H scope C cl fp)) (fun s H C cl fp => b4 _ (g.toGd.blk s H scope C cl fp)) (fun s H C cl fp => b5 _ (g.toGd.blk s H scope C cl fp)) (fold_plain b6)
          rw [b7] at q
          exact q
        | _ => cases h3
    · cases ok
  | .al i j, c, a, ok => by
    unfold okS at ok
    split at ok
    · rename_i x px z pz pos
      simp only [Bool.and_eq_true, decide_eq_true_eq] at ok
      obtain ⟨⟨⟨h1, h2⟩, h3⟩, h4⟩ := ok
      refine ⟨_, fun X g => ?_, rs_al⟩
      obtain ⟨t1, t2, t3⟩ := tgt_ok g.toGd h1
      exact ps_set (by rw [g.N]; exact g.nd) t1 t2 (g.var h2 h3 h4) rfl t3
    · cases ok
  | .par i j a b, c, s, ok => by
    unfold okS at ok
    split at ok
    · rename_i x px z pz kt pt va vb k2 p2 pos
      simp only [Bool.and_eq_true, decide_eq_true_eq, Bool.not_eq_true'] at ok
      obtain ⟨⟨⟨⟨⟨⟨⟨⟨⟨⟨⟨⟨h1, h2⟩, h3⟩, h4⟩, h5⟩, h6⟩, h7⟩, h8⟩, h9⟩, h10⟩, h11⟩, h12⟩, h13⟩ := ok
      obtain ⟨ta, pa, ra⟩ := (sndE y a c va h12).1
      obtain ⟨tb, pb, rb⟩ := (sndE y b c vb h13).1
      refine ⟨_, fun X g => ?_, rs_par ra rb h1⟩
      have l1 : X.env.scope.names.lookup x = some .local := by
        unfold isLoc at h4
        rw [g.sc]
        simpa using h4
      have l2 : X.env.scope.names.lookup z = some .local := by
        unfold isLoc at h5
        rw [g.sc]
        simpa using h5
      exact ps_par g.calm (by rw [g.N]; exact g.nd) (by rw [g.N]; exact h2) (by rw [g.N]; exact h3) h1 l1 l2 (pa_cons (pa X g.toGd) (pa_one h9 (pb X g.toGd)) (star_cons h8)) (stores_par g h4 h5 h6 h7 h8 h9 h10 h11) rfl
    · cases ok
  | .parN i j a b, c, s, ok => by
    unfold okS at ok
    split at ok
    · rename_i x px z pz kt pt va vb k2 p2 pos
      rw [Bool.and_eq_true, Bool.and_eq_true, Bool.and_eq_true, Bool.and_eq_true, Bool.and_eq_true, Bool.and_eq_true] at ok
      obtain ⟨⟨⟨⟨⟨⟨h1, h2⟩, h3⟩, h4⟩, h5⟩, h6⟩, h7⟩ := ok
      obtain ⟨ta, pa, ra⟩ := (sndE y a c va h6).1
      obtain ⟨tb, pb, rb⟩ := (sndE y b c vb h7).1
      refine ⟨_, fun X g => ?_, rs_parN ra rb⟩
      obtain ⟨t1, t2, t3⟩ := tgt_ok g.toGd h1
      obtain ⟨u1, u2, u3⟩ := tgt_ok g.toGd h2
      have hN : X.N.Nodup := by rw [g.N]; exact g.nd
      have q := pg_tup (k := kt) (pos := pt) (n := 2) g.calm (pgs_cons (pg_name (pos := px) hN t1 t2 t3) (pgs_cons (pg_name (pos := pz) hN u1 u2 u3) pgs_nil)) rfl rfl
      rw [g.K] at q
      exact ps_asg (pe_tup (pa_cons (pa X g.toGd) (pa_one h5 (pb X g.toGd)) (star_cons h4))) q (swap_not (v := .Tuple [va, vb] k2 p2) (t := .Tuple [.Name x px, .Name z pz] kt pt) (ln := pos.line) (env := X.env) trivial) (stores_mix g h3) rfl
    · cases ok
  | .asgT tg e, c, s, ok => by
    unfold okS at ok
    split at ok
    · rename_i es k p v pos
      simp only [Bool.and_eq_true] at ok
      obtain ⟨⟨h1, h2⟩, h3⟩ := ok
      obtain ⟨g0, pg, rg⟩ := sndTg (Y := Y) tg c _ h1
      obtain ⟨te, pe, re⟩ := (sndE y e c v h3).1
      exact ⟨_, fun X g => ps_asg (pe X g.toGd) (pg X g.toGd) (swap_not (t := .Tuple es k p) (ln := pos.line) (env := X.env) trivial) (stores_none h2) rfl, rs_asgT re rg⟩
    · cases ok
  | .setx p x e, c, s, ok => by
    unfold okS at ok
    split at ok
    · rename_i o i p1 v pos
      simp only [Bool.and_eq_true] at ok
      obtain ⟨⟨⟨h1, h2⟩, h3⟩, h4⟩ := ok
      obtain ⟨to, po, ro⟩ := sndP y p o h1
      obtain ⟨ti, pi, ri⟩ := sndX y x i h3
      obtain ⟨te, pe, re⟩ := (sndE y e c v h4).1
      refine ⟨_, fun X g => ps_asg (pe X g.toGd) (pg_sub (po X g.toGd) (pi X g.toGd) (PSet.or set_list (set_dict (Nat.lt_of_le_of_lt (by omega) g.toGd.units))) ?_) (swap_not (t := .Subscript o i p1) (ln := pos.line) (env := X.env) trivial) stores_sub rfl, rs_setx re ro ri⟩
      intro v
      cases i <;> first | rfl | cases h2
    · cases ok
  | .app p e, c, s, ok => by
    unfold okS at ok
    split at ok
    · rename_i o m ap v cp pos
      simp only [Bool.and_eq_true, decide_eq_true_eq] at ok
      obtain ⟨⟨⟨⟨rfl, h1⟩, h2⟩, h3⟩, h4⟩ := ok
      obtain ⟨te, pe, re⟩ := (sndE y e c v h4).1
      cases hp : p.isVar with
      | true =>
        cases p with
        | var i =>
          obtain ⟨x, px, rfl, o1, o2, o3⟩ := okP_var h2
          refine ⟨_, fun X g => ?_, rs_appV re⟩
          have q := ps_expr (pos := pos) (pe_app (path_base h2) h1 h3 (g.toGd.var (pos := px) o1 o2 o3) (pe X g.toGd)) rfl
          rw [g.K] at q
          exact q
        | ix _ _ => cases hp
        | «at» _ _ => cases hp
      | false =>
        obtain ⟨to, po, ro⟩ := sndP y p o h2
        refine ⟨_, fun X g => ?_, rs_appP hp re ro⟩
        have q := ps_expr (pos := pos) (pe_app (path_base h2) h1 h3 (po X g.toGd) (pe X g.toGd)) rfl
        rw [g.K] at q
        exact q
    · cases ok
  | .aug i op e, c, s, ok => by
    unfold okS at ok
    split at ok
    · rename_i x px o v pos
      simp only [Bool.and_eq_true] at ok
      obtain ⟨⟨h1, h2⟩, h3⟩ := ok
      cases opIs_eq h2
      obtain ⟨te, pe, re⟩ := (sndE y e c v h3).1
      cases op with
      | add =>
        refine ⟨_, fun X g => ?_, rs_aug re⟩
        obtain ⟨t1, t2, t3⟩ := tgt_ok g.toGd h1
        exact ps_aug (by rw [g.N]; exact g.nd) t1 t2 (pe X g.toGd) ip_add t3
      | sub =>
        refine ⟨_, fun X g => ?_, rs_aug re⟩
        obtain ⟨t1, t2, t3⟩ := tgt_ok g.toGd h1
        exact ps_aug (by rw [g.N]; exact g.nd) t1 t2 (pe X g.toGd) ip_sub t3
      | _ =>
        refine ⟨tNever, fun X g => ps_never, fun np σ H h sl rt vs F r rl hv D k => ?_⟩
        unfold ex at hv
        split at hv
        · split at hv
          · cases hv
          · cases hv
        · cases hv
    · cases ok
  | .ex e, c, s, ok => by
    unfold okS at ok
    split at ok
    · rename_i v pos
      rw [Bool.and_eq_true] at ok
      obtain ⟨te, pe, re⟩ := (sndE y e c v ok.2).1
      exact ⟨_, fun X g => ps_expr (pe X g.toGd) (swap_none ok.1), rs_ex re⟩
    · cases ok
  | .ite e a b, c, s, ok => by
    unfold okS at ok
    split at ok
    · rename_i t p q pos
      simp only [Bool.and_eq_true] at ok
      obtain ⟨⟨⟨h1, h2⟩, h3⟩, h4⟩ := ok
      obtain ⟨_, s1⟩ := sndE y e c t h2
      obtain ⟨tc, pc, rc⟩ := s1 h1
      obtain ⟨ta, pa, ra⟩ := sndSs y a c p h3
      obtain ⟨tb, pb, rb⟩ := sndSs y b c q h4
      exact ⟨_, fun X g => ps_if (pc X g.toGd).1 (pa X g) (pb X g), rs_ite rc ra rb⟩
    · cases ok
  | .fr tg it b, c, s, ok => by
    unfold okS at ok
    split at ok
    · rename_i t iter body pos
      simp only [Bool.and_eq_true] at ok
      obtain ⟨⟨⟨h1, h2⟩, h3⟩, h4⟩ := ok
      obtain ⟨wi, pi, ri⟩ := sndI y it c t iter h2
      obtain ⟨g0, pg, rg⟩ := sndTg (Y := Y) tg c t h3
      obtain ⟨tb, pb, rb⟩ := sndSs y b c body h4
      exact ⟨_, fun X g => ps_for (never g.toGd) g.calm (pi X g.toGd) (pg X g.toGd) (pb X g) (fold_plain (okI_set h2)), rs_fr ri rg rb h1⟩
    · cases ok
  | .frV tg i b, c, s, ok => by
    unfold okS at ok
    split at ok
    · rename_i t iter body pos
      simp only [Bool.and_eq_true] at ok
      obtain ⟨⟨h1, h2⟩, h3⟩ := ok
      obtain ⟨x, px, rfl, o1, o2, o3⟩ := okP_var h1
      obtain ⟨g0, pg, rg⟩ := sndTg (Y := Y) tg c t h2
      obtain ⟨tb, pb, rb⟩ := sndSs y b c body h3
      refine ⟨_, fun X g => ?_, rs_frV rg rb⟩
      have q := ps_for (pos := pos) (never g.toGd) g.calm (pi_list (g.toGd.var (pos := px) o1 o2 o3)) (pg X g.toGd) (pb X g) (fold_plain rfl)
      rw [g.K] at q
      exact q
    · cases ok
  | .wh e b, c, s, ok => by
    unfold okS at ok
    split at ok
    · rename_i t body pos
      simp only [Bool.and_eq_true] at ok
      obtain ⟨⟨h1, h2⟩, h3⟩ := ok
      obtain ⟨_, s1⟩ := sndE y e c t h2
      obtain ⟨tc, pc, rc⟩ := s1 h1
      obtain ⟨tb, pb, rb⟩ := sndSs y b c body h3
      exact ⟨_, fun X g => ps_while (never g.toGd) (pc X g.toGd).1 (pb X g), rs_wh rc rb⟩
    · cases ok
  | .ret e, c, s, ok => by
    unfold okS at ok
    split at ok
    · obtain ⟨te, pe, re⟩ := (sndE y e c _ ok).1
      exact ⟨_, fun X g => ps_ret (pe X g.toGd), rs_ret re⟩
    · cases ok
  | .retN, c, s, ok => by
    unfold okS at ok
    split at ok
    · refine ⟨_, fun X g => ps_retN, fun np σ H h sl rt vs F r rl hv D k => ?_⟩
      unfold ex at hv
      cases hv
      exact k .non σ H h vs F [] Stp.refl rl .refl (.cl .non) (fun a z => absurd z (by simp)) fun a z => absurd z (by simp)
    · cases ok
  | .brk, c, s, ok => by
    unfold okS at ok
    split at ok
    · refine ⟨_, fun X g => ps_break, fun np σ H h sl rt vs F r rl hv D k => ?_⟩
      unfold ex at hv
      cases hv
      exact k σ H h vs F Stp.refl rl .refl
    · cases ok
  | .ct, c, s, ok => by
    unfold okS at ok
    split at ok
    · refine ⟨_, fun X g => ps_continue, fun np σ H h sl rt vs F r rl hv D k => ?_⟩
      unfold ex at hv
      cases hv
      exact k σ H h vs F Stp.refl rl .refl
    · cases ok
  | .nop, c, s, ok => by
    have rr : RS Y .nop tNext := fun np σ H h sl rt vs F r rl hv D k => by
      unfold ex at hv
      cases hv
      exact k σ H h vs F Stp.refl rl .refl
    unfold okS at ok
    split at ok
    · exact ⟨_, fun X g => ps_pass, rr⟩
    · exact ⟨_, fun X g => ps_doc, rr⟩
    · cases ok
  | .never, c, s, ok => ⟨tNever, fun X g => ps_never, fun np σ H h sl rt vs F r rl hv D k => by
      unfold ex at hv
      cases hv⟩
theorem sndSs (y : Y.Ok) : ∀ (s : Ss) (c : Ck) (a : List Stmt), okSs Y.I c s a = true → SSs Y c s a
  | .nil, c, a, ok => by
    unfold okSs at ok
    split at ok
    · refine ⟨_, fun X g => pss_nil, fun np σ H h sl rt vs F r rl hv D k => ?_⟩
      unfold exs at hv
      cases hv
      exact k σ H h vs F Stp.refl rl .refl
    · cases ok
  | .cons s r, c, a, ok => by
    unfold okSs at ok
    split at ok
    · rename_i x xs
      rw [Bool.and_eq_true] at ok
      obtain ⟨t, p, rr⟩ := sndS y s c x ok.1
      obtain ⟨u, q, ru⟩ := sndSs y r c xs ok.2
      refine ⟨tSeq t u, fun X g => pss_cons (p X g) (q X g), fun np σ H h sl rt vs F res rl hv D k => ?_⟩
      unfold exs at hv
      split at hv
      · rename_i sl1 rt1 e1
        exact rr np σ H h sl rt vs F _ rl e1 _ fun σ' H' h' vs' F' st1 rl1 kp1 => ru np σ' H' h' sl1 rt1 vs' F' res rl1 hv D (k.thn st1 kp1 (fun j m => List.mem_append_left _ m) fun j m => List.mem_append_right _ m)
      · rename_i hn
        refine rr np σ H h sl rt vs F _ rl hv _ ?_
        obtain ⟨fl, sl', rt'⟩ := res
        cases fl with
        | nx => exact absurd hv (hn sl' rt')
        | bk => exact fun σ' H' h' vs' F' s2 rl k2 => k σ' H' h' vs' F' s2 rl (k2.sup fun j m => List.mem_append_left _ m)
        | ct => exact fun σ' H' h' vs' F' s2 rl k2 => k σ' H' h' vs' F' s2 rl (k2.sup fun j m => List.mem_append_left _ m)
        | rt t => exact fun v σ' H' h' vs' F' G s2 rl k2 => k v σ' H' h' vs' F' G s2 rl (k2.sup fun j m => List.mem_append_left _ m)
    · cases ok
end
end
end Mi
/-! MiTop: all defs, calls nested k deep, keep what the evaluator says. -/
namespace Mi
open PySem PySem.Spec PyProof.Rows L2
section
variable {K : PySem.W.Frag} {C : Nat → Addr} {h H h' H' : Hp}
theorem OwnR.ofOwns : ∀ {vs : List V} {ts : List T} {F : List Addr} (n : Nat), Owns K C h H vs ts F → ∃ F', OwnR K C h H (vs ++ List.replicate n .non) (ts.map some ++ List.replicate n none) F' ∧ ∀ a, a ∈ F' ↔ a ∈ F
  | _, _, _, 0, .nil => ⟨[], .nil, fun a => Iff.rfl⟩
  | _, _, _, n + 1, .nil => by
    obtain ⟨F', o, s⟩ := OwnR.ofOwns n (.nil (K := K) (C := C) (h := h) (H := H))
    exact ⟨F', .no o, s⟩
  | _, _, _, n, .cons (F := F) (G := G) p r dj => by
    obtain ⟨F', o, s⟩ := OwnR.ofOwns n r
    exact ⟨F ++ F', .cons p o fun a z z' => dj a z ((s a).mp z'), fun a => by rw [List.mem_append, List.mem_append, s a]⟩
theorem OwnR.takeN : ∀ {vs : List V} {rt : Rt} {F : List Addr} (n : Nat) {ts : List T}, OwnR K C h H vs rt F → somes (rt.take n) = some ts → ∃ F', Owns K C h H (vs.take n) ts F' ∧ ∀ a, a ∈ F' → a ∈ F
  | _, _, _, 0, ts, o, e => by
    cases e
    exact ⟨[], .nil, fun a z => absurd z (by simp)⟩
  | _, _, _, n + 1, ts, .nil, e => by
    cases e
    exact ⟨[], .nil, fun a z => absurd z (by simp)⟩
  | _, _, _, n + 1, ts, .no r, e => by cases e
  | _, _, _, n + 1, ts, .cons (F := F) (G := G) p r dj, e => by
    rw [List.take_succ_cons] at e
    obtain ⟨us, e1, rfl⟩ := Option.map_eq_some_iff.mp (show (somes _).map _ = some ts from e)
    obtain ⟨F', o, s⟩ := OwnR.takeN n r e1
    exact ⟨F ++ F', .cons p o fun a z z' => dj a z (s a z'), fun a z => (List.mem_append.mp z).elim (List.mem_append_left _) fun z => List.mem_append_right _ (s a z)⟩
theorem Stp.conv {F F' G G' : List Addr} (x : Stp F h H F' h' H') (e : ∀ a, a ∈ F ↔ a ∈ G) (s : ∀ a, a ∈ G' → a ∈ F') : Stp G h H G' h' H' :=
  ⟨fun a o e1 n => x.keep a o e1 fun z => n ((e a).mp z), x.up, fun a o n e1 => (x.new a o n e1).imp (e a).mp id, fun a z => (x.fp a (s a z)).imp (e a).mp id⟩
theorem startSl_at {np ns i : Nat} {s : S} (e : (startSl np ns)[i]? = some (some s)) : i < np ∧ s = .r i := by
  unfold startSl at e
  by_cases hi : i < np
  · rw [List.getElem?_append_left (by simpa using hi)] at e
    rw [List.getElem?_map, List.getElem?_range hi] at e
    cases e
    exact ⟨hi, rfl⟩
  · rw [List.getElem?_append_right (by simpa using Nat.not_lt.mp hi)] at e
    obtain ⟨h1, h2⟩ := List.getElem?_eq_some_iff.mp e
    rw [List.getElem_replicate] at h2
    cases h2
end
/-- one def's card -/
structure Card (P : Program) (w : World) (K : PySem.W.Frag) (mg : Str → Option Value) (I : Inf) (f : Nat) (x : Str) (fn : Fn) (a : Addr) (fd : FuncData) (ps : List Str) : Prop where
  mg : mg x = some (.ref a)
  keep : PySem.W.keepIn K (.ref a) = true
  pat : ∀ n ks pm, (f, n, ks, pm) ∈ I.pat → PatOk K fd ps n ks pm
  body : ∃ oc od osl name qual params body scope dV kV doc pm an cdv ct N, fd = PySem.W.fnOf name qual params body scope dV kV doc pm an cdv ct ∧ K.lookup a = some ⟨oc, od, .func (PySem.W.fnOf name qual params body scope dV kV doc pm an cdv ct), osl⟩ ∧
    PySem.W.codeIn K cdv qual = true ∧ FnScope N ps scope ∧ fn.np = ps.length ∧ fn.ns = N.length ∧ okSs I ⟨scope, N, fun _ => true⟩ fn.body body = true
section
variable {P : Program} {w : World} {K : PySem.W.Frag} {mg : Str → Option Value} {base : Heap} {I : Inf} {C : Nat → Addr} {G : List Fn}
theorem run_eq {g : List (Str × D)} {F : Fs} {fn : Fn} {ts ts' : List T} {r : T} (e : runFn g F fn ts = some (r, ts')) : ts.length = fn.np ∧ ∃ fl sl' rt', exs ⟨F, fn.np, g⟩ fn.body (startSl fn.np fn.ns) (startRt fn.ns ts) = some (fl, sl', rt') ∧ somes (rt'.take fn.np) = some ts' ∧ (fl = .rt r ∨ (fl = .nx ∧ r = .cl .non)) := by
  unfold runFn at e
  split at e
  · rename_i hl
    refine ⟨hl, ?_⟩
    split at e
    · rename_i t sl' rt' he
      obtain ⟨as, e1, e2⟩ := Option.map_eq_some_iff.mp e
      cases e2
      exact ⟨_, _, _, he, e1, .inl rfl⟩
    · rename_i sl' rt' he
      obtain ⟨as, e1, e2⟩ := Option.map_eq_some_iff.mp e
      cases e2
      exact ⟨_, _, _, he, e1, .inr ⟨rfl, rfl⟩⟩
    · cases e
  · cases e
theorem card_fok {k : Nat} (y : Fx.Ok ⟨P, w, K, mg, base, I, C, k, sem I.glb G k⟩) {f : Nat} {x : Str} {fn : Fn} {a : Addr} {fd : FuncData} {ps : List Str} (hG : G[f]? = some fn) (cd : Card P w K mg I f x fn a fd ps) :
    FOk P w K mg base (k + 1) a fd ps (spF K C (sem I.glb G (k + 1)) f) := by
  obtain ⟨_, _, _, oc, od, osl, name, qual, params, body, scope, dV, kV, doc, pm, an, cdv, ct, N, rfl, hf, hc, S, hnp, hns, ok⟩ := cd
  have hsem : ∀ ts, sem I.glb G (k + 1) f ts = runFn I.glb (sem I.glb G k) fn ts := fun ts => by
    show (match G[f]? with | none => none | some fn => runFn I.glb (sem I.glb G k) fn ts) = _
    rw [hG]
  refine fok_of hf hc S (fun vs H Q sp => ?_) fun A outer s H vs Q room grd sp => ?_
  · obtain ⟨h, ts, Fp, r, ts', _, ow, e, _⟩ := sp
    rw [hsem] at e
    rw [ow.length, (run_eq e).1, hnp]
  · obtain ⟨h, ts, Fp, r, ts', sub, ow, e, kk⟩ := sp
    rw [hsem] at e
    obtain ⟨hl, fl, sl', rt', he, hs, hr⟩ := run_eq e
    obtain ⟨t, p, rr⟩ := sndSs y fn.body ⟨scope, N, fun _ => true⟩ body ok
    refine ⟨t, p _ ⟨⟨rfl, rfl, rfl, rfl, rfl, rfl, rfl, S.nd, rfl, rfl, grd, room, fun _ _ => rfl⟩, S.kind⟩, ?_⟩
    have hvl : vs.length = fn.np := ow.length.trans hl
    have hN : ps.length ≤ N.length := by
      have := congrArg List.length S.pre
      rw [List.length_take] at this
      omega
    obtain ⟨F0, o0, s0⟩ := OwnR.ofOwns fn.ns ow
    have hsl : (L2.start N vs).length = (startSl fn.np fn.ns).length := by
      unfold L2.start startSl
      rw [List.length_append, List.length_append, List.length_map, List.length_map, List.length_replicate, List.length_replicate, List.length_range, hvl, hns]
    have rel : Rel K C (L2.start N vs) H h (startSl fn.np fn.ns) (startRt fn.ns ts) (vs ++ List.replicate fn.ns .non) F0 := by
      refine ⟨sub, o0, fun i s e => ?_, hsl⟩
      obtain ⟨hi, rfl⟩ := startSl_at e
      have hi' : i < vs.length := by rw [hvl]; exact hi
      refine ⟨vs[i], ?_, ?_⟩
      · unfold L2.start
        rw [List.getElem?_append_left (by simpa using hi'), List.getElem?_map, List.getElem?_eq_getElem hi']
        rfl
      · show (vs ++ List.replicate fn.ns .non)[i]? = some vs[i]
        rw [List.getElem?_append_left hi', List.getElem?_eq_getElem hi']
    have fin : ∀ v σ' H' h' vs' F' Gg, Stp F0 h H F' h' H' → Rel K C σ' H' h' sl' rt' vs' F' → Kept fn.np fn.body.stores (vs ++ List.replicate fn.ns .non) vs' → Own K C h' H' v r Gg → (∀ a, a ∈ Gg → a ∉ F') → (∀ a, a ∈ Gg → a ∈ F0 ∨ H a = none) → Q v H' := by
      intro v σ' H' h' vs' F' Gg st rl kp own dj fr
      obtain ⟨F2, o2, s2⟩ := rl.own.takeN fn.np hs
      have ev : vs'.take fn.np = vs := by
        rw [kp.take, ← hvl, List.take_left']
        rfl
      rw [ev] at o2
      exact kk v H' h' F2 Gg (st.conv s0 s2) rl.sub o2 own (fun a z z' => dj a z (s2 a z')) fun a z => (fr a z).imp (s0 a).mp id
    refine rr fn.np (L2.start N vs) H h _ _ _ F0 _ rel he _ ?_
    rcases hr with rfl | ⟨rfl, rfl⟩
    · exact fun v σ' H' h' vs' F' Gg st rl kp own dj fr => fin v σ' H' h' vs' F' Gg st rl kp own dj fr
    · exact fun σ' H' h' vs' F' st rl kp => fin .non σ' H' h' vs' F' [] st rl kp (.cl .non) (fun a z => absurd z (by simp)) fun a z => absurd z (by simp)
/-- the tower -/
theorem tower (blt : ∀ x, x ∈ bltNames → mg x = none) (glb : ∀ x d, I.glb.lookup x = some d → ∃ v u, mg x = some u ∧ RelV v u ∧ ∀ h, Rep K C h v d) (fld : ∀ c f, f ∈ I.fld → Cls K (C c) ∧ NoAttr K (C c) f)
    (cards : ∀ (f : Nat) (x : Str), I.fnm[f]? = some x → ∃ fn a fd ps, G[f]? = some fn ∧ Card P w K mg I f x fn a fd ps) : ∀ k, Fx.Ok ⟨P, w, K, mg, base, I, C, k, sem I.glb G k⟩
  | 0 => by
    refine ⟨blt, glb, fld, fun f x e => ?_⟩
    obtain ⟨fn, a, fd, ps, hG, cd⟩ := cards f x e
    refine ⟨a, fd, ps, cd.mg, cd.keep, ⟨fun vs H Q sp => ?_, fun A outer s H args us vs Q _ _ _ _ _ sp => ?_⟩, cd.pat⟩
    · obtain ⟨h, ts, Fp, r, ts', _, _, e, _⟩ := sp
      cases e
    · obtain ⟨h, ts, Fp, r, ts', _, _, e, _⟩ := sp
      cases e
  | k + 1 => by
    have ih := tower blt glb fld cards k
    refine ⟨blt, glb, fld, fun f x e => ?_⟩
    obtain ⟨fn, a, fd, ps, hG, cd⟩ := cards f x e
    exact ⟨a, fd, ps, cd.mg, cd.keep, card_fok ih hG cd, cd.pat⟩
end
end Mi
/-! MiLaw: the law's own head. -/
namespace Mi
open PySem PySem.Spec PyProof.Rows L2
/-- what is asked of the call behind the top -/
def Won (s1 : Shared) (r : Result) (s' : Shared) : Prop := r = .ok (.ret (.bool true)) ∧ OldK s1.heap s'.heap ∧ s'.os = s1.os ∧ AllBare s'.gens
section
variable {P : Program} {w : World} {K : PySem.W.Frag} {mg mb : Str → Option Value} {k : Nat} {fa a : Addr} {fd : FuncData} {x : Str} {sp : Sp0} {s1 : Shared} {us : List Value} {ns : List Int}
/-- over a heap in which nothing stands but the script, frozen -/
theorem head_core (hIn : K.In s1.heap) (hmg : s1.heap.Ns mainGlobals mg) (hmb : s1.heap.Ns builtinsNs mb) (hbt : ∀ x : Str, x ≠ "__name__" → mb x = bootBuiltins x) (lim : s1.heap.NoLimit) (noG : s1.gens = #[])
    (at1 : s1.heap.get? a = some { cls := .type "list", data := .seq us.toArray }) (room : Room k callerA) (F : ∀ base : Heap, K.In base → base.Ns mainGlobals mg → FOk P w K mg base k fa fd [x] sp)
    (bnd : ∀ (s : Shared) (u : Value), BindsTo s fd ⟨[u], []⟩ [(x, u)]) {H : Hp} (one : ∀ b, H b = none ∨ (b = a ∧ ∃ o xs, H b = some (.frz o (.lst xs)))) (hok : HOk P w H s1.heap) (notK : H a ≠ none → K.lookup a = none)
    (want : sp [.ref a] H fun v _ => v = .bl true) : codeAny (model P w) callerA (.call (.ref fa) ⟨[.ref a], []⟩) (Won s1) s1 := by
  have free : ∀ {b : Addr} {o : Obj}, s1.heap.get? b = some o → b ≠ a → (hidT s1.heap H).get? b = some o := fun {b o} e n => hidT_get e ((one b).resolve_right fun z => n z.1)
  have spaces : ∀ {b : Addr} {m : Str → Option Value}, s1.heap.Ns b m → (hidT s1.heap H).Ns b m := by
    rintro b m ⟨o, es, ep, e, d, r⟩
    refine ⟨o, es, ep, free e fun z => ?_, d, r⟩
    rw [z, at1] at e
    cases e
    cases d
  have inB : K.In (hidT s1.heap H) := by
    intro b o e
    by_cases z : b = a
    · refine hidT_get (hIn b o e) ?_
      rw [z] at e ⊢
      cases q : H a with
      | none => rfl
      | some u => rw [notK (by rw [q]; simp)] at e; cases e
    · exact free (hIn b o e) z
  have md : Mod K mg (hidT s1.heap H) := by
    refine ⟨inB, spaces hmg, ⟨mb, spaces hmb, hbt⟩, ?_⟩
    obtain ⟨mc, l1, l2⟩ := lim
    exact ⟨mc, spaces l1, l2⟩
  have e0 : Env0 P w K mg (hidT s1.heap H) callerA [] s1 H := by
    refine ⟨rfl, md, fun b o e => of_hidT e, Nat.le_of_eq (hidT_size _ _), trivial, fun b m => ?_, hok, .of_eq noG⟩
    exact absurd (show b ∈ ([] : List Addr) from m) (by simp)
  have go := (F _ inB (spaces hmg)).run callerA [] s1 H ⟨[.ref a], []⟩ [.ref a] [.ref a] _ room rfl e0 (bnd s1 (.ref a)) (.cons rfl .nil) want
  refine codeAny_mono go fun r s' q => ?_
  match r, q with
  | .error _, q => exact q.elim
  | .ok .next, q => exact q.elim
  | .ok .brk, q => exact q.elim
  | .ok .cont, q => exact q.elim
  | .ok (.ret u), q =>
    obtain ⟨v, H', hos, bare, un, hok', rel, hv⟩ := q
    have hv : v = .bl true := hv
    subst hv
    have hu : u = Value.bool true := rel
    subst hu
    refine ⟨rfl, OldK.of_keep fun b o e => ?_, hos, bare⟩
    rcases one b with q | ⟨_, ob, xs, q⟩
    · exact un.keep b o e q (fun z => absurd (show b ∈ ([] : List Addr) from z) (by simp)) (by simp)
    · obtain ⟨e1, _⟩ := hok b _ q
      obtain ⟨e2, _⟩ := hok' b _ (un.frzs b ob _ q)
      rw [e] at e1
      cases e1
      exact e2
/-- the script: an object of the module, or frozen -/
theorem head_go (hIn : K.In s1.heap) (hmg : s1.heap.Ns mainGlobals mg) (hmb : s1.heap.Ns builtinsNs mb) (hbt : ∀ x : Str, x ≠ "__name__" → mb x = bootBuiltins x) (lim : s1.heap.NoLimit) (noG : s1.gens = #[])
    (at1 : s1.heap.get? a = some { cls := .type "list", data := .seq us.toArray }) (are : IntsAre us ns) (len : ns.length ≤ sizeLine) (room : Room k callerA)
    (F : ∀ base : Heap, K.In base → base.Ns mainGlobals mg → FOk P w K mg base k fa fd [x] sp) (bnd : ∀ (s : Shared) (u : Value), BindsTo s fd ⟨[u], []⟩ [(x, u)])
    (want : ∀ H : Hp, SqL K H a (ns.map V.int) → sp [.ref a] H fun v _ => v = .bl true) : codeAny (model P w) callerA (.call (.ref fa) ⟨[.ref a], []⟩) (Won s1) s1 := by
  have rv := vals_ints are
  cases inK : K.lookup a with
  | some o =>
    have e := hIn a o inK
    rw [at1] at e
    cases e
    refine head_core (H := fun _ => none) hIn hmg hmb hbt lim noG at1 room F bnd (fun _ => .inl rfl) (fun b u z => ?_) (fun z => absurd rfl z) (want _ (.inr ⟨_, us.toArray, _, inK, rfl, rfl, rfl, ?_, ?_⟩))
    · have z' : (none : Option HO) = some u := z
      cases z'
    · rw [List.size_toArray, are.length]
      exact len
    · simpa using rv
  | none =>
    refine head_core (H := fun b => if b = a then some (.frz { cls := .type "list", data := .seq us.toArray } (.lst (ns.map V.int))) else none) hIn hmg hmb hbt lim noG at1 room F bnd (fun b => ?_) (fun b u z => ?_) (fun _ => inK) (want _ (.inl (.inr ⟨_, if_pos rfl⟩)))
    · by_cases e : b = a
      · exact .inr ⟨e, _, _, if_pos e⟩
      · exact .inl (if_neg e)
    · by_cases e : b = a
      · have z' := (if_pos e).symm.trans z
        cases z'
        subst e
        exact ⟨at1, by rw [List.length_map]; exact len, us, _, rv, at1⟩
      · have z' := (if_neg e).symm.trans z
        cases z'
end
/-- the goal that the head leaves -/
theorem walk_mi {l : PySem.W.OpenLaw} {k n : Nat} {q : Program} {loose : List Str} {XP : (Str → Option Value) → Heap → Prop} {YP : World → Heap → Prop} {d : DefRec} {Kf : Params → PySem.W.Frag} {x : Str} {I : Inf} {G : List Fn} {fl : Nat}
    (hn : l.most = some n) (hn2 : n ≤ sizeLine) (hdf : d.params.defaults = []) (room : Room k callerA) (hY : ∀ (w : World) (h : Heap), YP w h → (Kf w.params).In h)
    (F : ∀ (w : World) (mg : Str → Option Value) (fa : Addr) (h : Heap), (Kf w.params).In h → h.Ns mainGlobals mg → mg d.name = some (.ref fa) →
      ∃ (C : Nat → Addr) (fd : FuncData), (∀ (s : Shared) (u : Value), BindsTo s fd ⟨[u], []⟩ [(x, u)]) ∧ ∀ base : Heap, (Kf w.params).In base → base.Ns mainGlobals mg → FOk l.prog w (Kf w.params) mg base k fa fd [x] (spF (Kf w.params) C (sem I.glb G k) fl))
    (pure : ∀ ns : List Int, ns.length ≤ n → ∃ ts, sem I.glb G k fl [.cl (.scr ns)] = some (.cl (.bl true), ts)) : PySem.W.WalkO q loose XP YP l.row.toRowW d [] (fun f vs => PySem.call f vs) := by
  refine Att.attach_call hn hdf fun w s0 s1 mg mb fa o pm cd doc a us ns Gr Yy _ _ _ hmg at1 are len noG => ?_
  have hIn := hY w _ Yy
  obtain ⟨C, fd, bnd, hF⟩ := F w mg fa _ hIn Gr.T.g hmg
  refine head_go hIn Gr.T.g Gr.T.b Gr.T.builtins Gr.T.nolimit noG at1 are (Nat.le_trans len hn2) room hF bnd fun H hs => ?_
  obtain ⟨ts, e⟩ := pure ns len
  refine ⟨H, [.cl (.scr ns)], [] ++ [], .cl (.bl true), ts, Same.refl _, .cons (.cl (.scr hs)) .nil fun b z => absurd z (by simp), e, ?_⟩
  intro v H' h' F' Gg st sub ow own dj fr
  have rp := rep_d own
  cases rp
  rfl
end Mi
/-! MiPure: laws of the evaluator's operations. -/
namespace Mi
open PySem PySem.Spec PyProof.Rows L2
/-- data that == and repr take: their python form -/
theorem pys_map {α : Type} (f : α → D) (g : α → PyData) (h : ∀ x, (f x).py = some (g x)) : ∀ xs : List α, D.pys (xs.map f) = some (xs.map g)
  | [] => rfl
  | x :: xs => by
    rw [List.map_cons, List.map_cons]
    unfold D.pys
    rw [h, pys_map f g h xs]
theorem py_int (i : Int) : (D.int i).py = some (.int i) := by unfold D.py; rfl
theorem py_bl (b : Bool) : (D.bl b).py = some (.bool b) := by unfold D.py; rfl
theorem py_str (s : Str) : (D.str s).py = some (.str s) := by unfold D.py; rfl
theorem py_lst {xs : List D} {ps : List PyData} (h : D.pys xs = some ps) : (D.lst xs).py = some (.list ps) := by unfold D.py; rw [h]; rfl
theorem py_tup {xs : List D} {ps : List PyData} (h : D.pys xs = some ps) : (D.tup xs).py = some (.tuple ps) := by unfold D.py; rw [h]; rfl
theorem py_ints (xs : List Int) : D.pys (xs.map .int) = some (xs.map .int) := pys_map _ _ py_int xs
theorem py_bls (xs : List Bool) : D.pys (xs.map .bl) = some (xs.map .bool) := pys_map _ _ py_bl xs
theorem lay_map {α : Type} (g : α → PyData) (h : ∀ x, (g x).canLay0 = true ∧ (g x).depth = 0) : ∀ xs : List α, PyData.canLayAll0 (xs.map g) = true ∧ PyData.depthAll (xs.map g) = 0
  | [] => ⟨by unfold PyData.canLayAll0; rfl, by unfold PyData.depthAll; rfl⟩
  | x :: xs => by
    obtain ⟨a, b⟩ := lay_map g h xs
    obtain ⟨c, d⟩ := h x
    rw [List.map_cons]
    refine ⟨?_, ?_⟩
    · unfold PyData.canLayAll0
      rw [c, a]; rfl
    · unfold PyData.depthAll
      rw [d, b]; rfl
theorem lay_int (i : Int) : (PyData.int i).canLay0 = true ∧ (PyData.int i).depth = 0 := ⟨by unfold PyData.canLay0; rfl, by unfold PyData.depth; rfl⟩
theorem lay_bl (i : Bool) : (PyData.bool i).canLay0 = true ∧ (PyData.bool i).depth = 0 := ⟨by unfold PyData.canLay0; rfl, by unfold PyData.depth; rfl⟩
theorem shaped_lst {ps : List PyData} (h : PyData.canLayAll0 ps = true ∧ PyData.depthAll ps = 0) : SeqAt.shaped (.list ps) = true := by
  unfold SeqAt.shaped PyData.canLay0 PyData.depth
  rw [h.1, h.2]; rfl
theorem shaped_tup {ps : List PyData} (h : PyData.canLayAll0 ps = true ∧ PyData.depthAll ps = 0) : SeqAt.shaped (.tuple ps) = true := by
  unfold SeqAt.shaped PyData.canLay0 PyData.depth
  rw [h.1, h.2]; rfl
theorem shaped_int (i : Int) : SeqAt.shaped (.int i) = true := by
  unfold SeqAt.shaped
  rw [(lay_int i).1, (lay_int i).2]; rfl
theorem eqv_ints : ∀ xs ys : List Int, PyData.eqvAll (xs.map .int) (ys.map .int) = decide (xs = ys)
  | [], [] => by simp [PyData.eqvAll]
  | x :: xs, [] => by simp [PyData.eqvAll]
  | [], y :: ys => by simp [PyData.eqvAll]
  | x :: xs, y :: ys => by
    rw [List.map_cons, List.map_cons]
    unfold PyData.eqvAll
    rw [eqv_ints xs ys]
    by_cases h : x = y <;> by_cases h' : xs = ys <;> simp [PyData.eqv, h, h']
theorem eqv_bls : ∀ xs ys : List Bool, PyData.eqvAll (xs.map .bool) (ys.map .bool) = decide (xs = ys)
  | [], [] => by simp [PyData.eqvAll]
  | x :: xs, [] => by simp [PyData.eqvAll]
  | [], y :: ys => by simp [PyData.eqvAll]
  | x :: xs, y :: ys => by
    rw [List.map_cons, List.map_cons]
    unfold PyData.eqvAll
    rw [eqv_bls xs ys]
    by_cases h : x = y <;> by_cases h' : xs = ys <;> simp [PyData.eqv, h, h']
theorem eqD_int (i j : Int) : eqD (.int i) (.int j) = some (decide (i = j)) := by
  unfold eqD
  rw [py_int, py_int]
  simp only
  rw [shaped_int, shaped_int, Bool.and_self, if_pos rfl]
  simp only [PyData.eqv]
  by_cases h : i = j <;> simp [h]
theorem eqD_ints (xs ys : List Int) : eqD (.lst (xs.map .int)) (.lst (ys.map .int)) = some (decide (xs = ys)) := by
  unfold eqD
  rw [py_lst (py_ints xs), py_lst (py_ints ys)]
  simp only
  rw [shaped_lst (lay_map _ lay_int xs), shaped_lst (lay_map _ lay_int ys), Bool.and_self, if_pos rfl]
  simp only [PyData.eqv]
  rw [eqv_ints]
theorem eqD_bls (xs ys : List Bool) : eqD (.lst (xs.map .bl)) (.lst (ys.map .bl)) = some (decide (xs = ys)) := by
  unfold eqD
  rw [py_lst (py_bls xs), py_lst (py_bls ys)]
  simp only
  rw [shaped_lst (lay_map _ lay_bl xs), shaped_lst (lay_map _ lay_bl ys), Bool.and_self, if_pos rfl]
  simp only [PyData.eqv]
  rw [eqv_bls]
theorem show_map {α : Type} (g : α → PyData) (n : Nat) : ∀ xs : List α, (∀ x ∈ xs, (g x).showable = true ∧ (g x).hasDict = false ∧ (g x).shown.length ≤ n) → PyData.showableAll (xs.map g) = true ∧ PyData.hasDictAll (xs.map g) = false ∧ piled (PyData.shownAll (xs.map g)) ≤ (n + 2) * xs.length
  | [], _ => ⟨by unfold PyData.showableAll; rfl, by unfold PyData.hasDictAll; rfl, by unfold PyData.shownAll; exact Nat.zero_le _⟩
  | x :: xs, h => by
    obtain ⟨a, b, c⟩ := show_map g n xs fun y m => h y (List.mem_cons_of_mem _ m)
    obtain ⟨d, e, f⟩ := h x List.mem_cons_self
    rw [List.map_cons]
    refine ⟨?_, ?_, ?_⟩
    · unfold PyData.showableAll
      rw [d, a]; rfl
    · unfold PyData.hasDictAll
      rw [e, b]; rfl
    · unfold PyData.shownAll
      rw [piled_cons, List.length_cons, Nat.mul_add]
      omega
theorem show_int {i : Int} (h : i.natAbs.log2 < 1920) : (PyData.int i).showable = true ∧ (PyData.int i).hasDict = false ∧ (PyData.int i).shown.length ≤ 1921 := by
  refine ⟨?_, ?_, ?_⟩
  · unfold PyData.showable
    exact decide_eq_true h
  · unfold PyData.hasDict
    rfl
  · unfold PyData.shown
    exact int_text_len_1921 h
theorem tupleText_le (ts : List Str) : (tupleText ts).length ≤ piled ts + 3 := by
  unfold tupleText
  have e3 : (((if ts.length == 1 then ",)" else ")" : String) : Str)).length ≤ 2 := by split <;> decide
  have e1 : ((("(" : String) : Str)).length = 1 := rfl
  rw [strLen_append, strLen_append, e1]
  by_cases h : ts = []
  · subst h
    have : (Str.join ", " ([] : List Str)).length = 0 := rfl
    omega
  · have := join_length_add ts h
    omega
theorem listText_le (ts : List Str) : (listText ts).length ≤ piled ts + 3 := by
  unfold listText
  have e1 : ((("]" : String) : Str)).length = 1 := rfl
  have e2 : ((("[" : String) : Str)).length = 1 := rfl
  rw [strLen_append, e1]
  cases ts with
  | nil => show 1 + 1 ≤ 0 + 3; omega
  | cons t r =>
    have h := textFrom_length_pos r 1 (("[" : Str) ++ (if (0 : Nat) > 0 then ", " else "" : String) ++ t) Nat.one_pos
    have e : (("[" : Str) ++ (if (0 : Nat) > 0 then ", " else "" : String) ++ t).length = 1 + t.length := by
      have e0 : (((if (0 : Nat) > 0 then ", " else "" : String) : Str)).length = 0 := rfl
      rw [strLen_append, strLen_append, e0, e2]
    have y : textFrom 0 "[" (t :: r) = textFrom 1 (("[" : Str) ++ (if (0 : Nat) > 0 then ", " else "" : String) ++ t) r := rfl
    rw [y, h, e, piled_cons]
    omega
theorem repr_of {d : D} {p : PyData} (h : d.py = some p) (h1 : p.showable = true) (h2 : p.hasDict = false) (h3 : p.shown.length ≤ sizeLine) (h4 : p.depth ≤ 40) : f1D .repr d = some (.cl (.str p.shown)) := by
  have e : f1D .repr d = (match d.py with | some x => if x.showable && !x.hasDict && decide (x.shown.length ≤ sizeLine) && decide (x.depth ≤ 40) then some (.cl (.str x.shown)) else none | none => none) := by cases d <;> rfl
  rw [e, h]
  simp only
  rw [h1, h2, decide_eq_true h3, decide_eq_true h4]
  rfl
theorem repr_tup {α : Type} {f : α → D} {g : α → PyData} {xs : List α} (h : ∀ x, (f x).py = some (g x)) (h1 : ∀ x, (g x).canLay0 = true ∧ (g x).depth = 0) (h2 : ∀ x ∈ xs, (g x).showable = true ∧ (g x).hasDict = false ∧ (g x).shown.length ≤ 1921) (hl : xs.length ≤ 1000) :
    f1D .repr (.tup (xs.map f)) = some (.cl (.str (PyData.tuple (xs.map g)).shown)) := by
  obtain ⟨a, b, c⟩ := show_map g 1921 xs h2
  refine repr_of (py_tup (pys_map f g h xs)) ?_ ?_ ?_ ?_
  · unfold PyData.showable; exact a
  · unfold PyData.hasDict; exact b
  · unfold PyData.shown
    refine Nat.le_trans (tupleText_le _) ?_
    have : sizeLine = 16777216 := rfl
    omega
  · unfold PyData.depth
    rw [(lay_map g h1 xs).2]
    decide
theorem repr_lst {α : Type} {f : α → D} {g : α → PyData} {xs : List α} (h : ∀ x, (f x).py = some (g x)) (h1 : ∀ x, (g x).canLay0 = true ∧ (g x).depth = 0) (h2 : ∀ x ∈ xs, (g x).showable = true ∧ (g x).hasDict = false ∧ (g x).shown.length ≤ 1921) (hl : xs.length ≤ 1000) :
    f1D .repr (.lst (xs.map f)) = some (.cl (.str (PyData.list (xs.map g)).shown)) := by
  obtain ⟨a, b, c⟩ := show_map g 1921 xs h2
  refine repr_of (py_lst (pys_map f g h xs)) ?_ ?_ ?_ ?_
  · unfold PyData.showable; exact a
  · unfold PyData.hasDict; exact b
  · unfold PyData.shown
    refine Nat.le_trans (listText_le _) ?_
    have : sizeLine = 16777216 := rfl
    omega
  · unfold PyData.depth
    rw [(lay_map g h1 xs).2]
    decide
theorem show_bl (b : Bool) : (PyData.bool b).showable = true ∧ (PyData.bool b).hasDict = false ∧ (PyData.bool b).shown.length ≤ 1921 := by
  refine ⟨by unfold PyData.showable; rfl, by unfold PyData.hasDict; rfl, ?_⟩
  unfold PyData.shown
  cases b <;> decide
theorem ds_ti : ∀ xs : List D, T.ds (cls xs) = xs
  | [] => rfl
  | x :: xs => by
    unfold cls
    rw [List.map_cons]
    unfold T.ds
    have := ds_ti xs
    unfold cls at this
    rw [this]
    rfl
theorem d_ls (xs : List D) : (T.ls (cls xs)).d = .lst xs := by
  show D.lst (T.ds (cls xs)) = _
  rw [ds_ti]
theorem intsOf_map : ∀ xs : List Int, intsOf (xs.map .int) = some xs
  | [] => rfl
  | x :: xs => by
    rw [List.map_cons]
    unfold intsOf
    rw [intsOf_map xs]
    rfl
theorem d_cl (d : D) : (T.cl d).d = d := rfl
theorem oB_add (i j : Int) : opB .add (.int i) (.int j) = some (.cl (.int (i + j))) := rfl
theorem oB_sub (i j : Int) : opB .sub (.int i) (.int j) = some (.cl (.int (i - j))) := rfl
theorem oB_mul {i j : Int} (h : mulOk i j = true) : opB .mul (.int i) (.int j) = some (.cl (.int (i * j))) := by
  show (if mulOk i j = true then _ else _) = _
  rw [if_pos h]
theorem oB_mod {i j : Int} (h : j ≠ 0) : opB .mod (.int i) (.int j) = some (.cl (.int (i.fmod j))) := by
  show (if j = 0 then _ else _) = _
  rw [if_neg h]
theorem oB_div {i j : Int} (h : j ≠ 0) (h2 : j.natAbs.log2 < 9000) : opB .fdiv (.int i) (.int j) = some (.cl (.int (i.fdiv j))) := by
  show (if j = 0 ∨ 9000 ≤ j.natAbs.log2 then _ else _) = _
  rw [if_neg (by omega)]
theorem oC_lt (i j : Int) : opC .lt (.int i) (.int j) = some (decide (i < j)) := rfl
theorem oC_le (i j : Int) : opC .le (.int i) (.int j) = some (decide (i ≤ j)) := rfl
theorem oC_gt (i j : Int) : opC .gt (.int i) (.int j) = some (decide (j < i)) := rfl
theorem oC_ge (i j : Int) : opC .ge (.int i) (.int j) = some (decide (j ≤ i)) := rfl
theorem oC_eq (a b : D) : opC .eq a b = eqD a b := by cases a <;> rfl
theorem oC_ne (a b : D) : opC .ne a b = (eqD a b).map (!·) := by cases a <;> rfl
/-! ### texts whose signs are code points -/
theorem ok_of (s : String) : PyData.strOk (Str.ofString s) = true := by
  unfold PyData.strOk
  rw [Str.ofString_eq_toList]
  rw [Array.all_eq_true]
  intro i hi
  simp only [List.getElem_toArray, List.getElem_map, decide_eq_true_eq]
  have v := (s.toList[i]'(by simpa using hi)).valid
  have e : (s.toList[i]'(by simpa using hi)).toNat = (s.toList[i]'(by simpa using hi)).val.toNat := rfl
  rcases v with v | v
  · rw [e]
    have : (s.toList[i]'(by simpa using hi)).val.toNat < 0xd800 := v
    omega
  · rw [e]
    exact v.2
theorem ok_app {a b : Str} (h1 : PyData.strOk a = true) (h2 : PyData.strOk b = true) : PyData.strOk (a ++ b) = true := by
  unfold PyData.strOk at *
  rw [Str.cps_append, Array.all_append, h1, h2]
  rfl
theorem ok_join {sep : Str} (h : PyData.strOk sep = true) : ∀ ts : List Str, (∀ t ∈ ts, PyData.strOk t = true) → PyData.strOk (Str.join sep ts) = true
  | [], _ => ok_of ""
  | [x], k => k x List.mem_cons_self
  | x :: y :: r, k => ok_app (ok_app (k x List.mem_cons_self) h) (ok_join h (y :: r) fun t m => k t (List.mem_cons_of_mem _ m))
theorem ok_from : ∀ (ts : List Str) (k : Nat) (acc : Str), PyData.strOk acc = true → (∀ t ∈ ts, PyData.strOk t = true) → PyData.strOk (textFrom k acc ts) = true
  | [], _, _, h, _ => h
  | t :: ts, k, acc, h, q => ok_from ts (k + 1) _ (ok_app (ok_app h (ok_of _)) (q t List.mem_cons_self)) fun u m => q u (List.mem_cons_of_mem _ m)
theorem ok_list {ts : List Str} (h : ∀ t ∈ ts, PyData.strOk t = true) : PyData.strOk (listText ts) = true := ok_app (ok_from ts 0 _ (ok_of _) h) (ok_of _)
theorem ok_tuple {ts : List Str} (h : ∀ t ∈ ts, PyData.strOk t = true) : PyData.strOk (tupleText ts) = true := ok_app (ok_app (ok_of _) (ok_join (ok_of _) ts h)) (ok_of _)
theorem ok_all {α : Type} {g : α → PyData} (h : ∀ x, PyData.strOk (g x).shown = true) : ∀ xs : List α, ∀ t ∈ PyData.shownAll (xs.map g), PyData.strOk t = true
  | [], t, m => by
    unfold PyData.shownAll at m
    cases m
  | x :: xs, t, m => by
    rw [List.map_cons] at m
    unfold PyData.shownAll at m
    rcases List.mem_cons.mp m with rfl | m
    · exact h x
    · exact ok_all h xs t m
theorem ok_int (i : Int) : PyData.strOk (PyData.int i).shown = true := by
  unfold PyData.shown
  exact ok_of _
theorem ok_bl (i : Bool) : PyData.strOk (PyData.bool i).shown = true := by
  unfold PyData.shown
  cases i <;> exact ok_of _
theorem ok_shTup {α : Type} {g : α → PyData} (h : ∀ x, PyData.strOk (g x).shown = true) (xs : List α) : PyData.strOk (PyData.tuple (xs.map g)).shown = true := by
  unfold PyData.shown
  exact ok_tuple (ok_all h xs)
theorem ok_shLst {α : Type} {g : α → PyData} (h : ∀ x, PyData.strOk (g x).shown = true) (xs : List α) : PyData.strOk (PyData.list (xs.map g)).shown = true := by
  unfold PyData.shown
  exact ok_list (ok_all h xs)
theorem eqD_str {a b : Str} (h1 : PyData.strOk a = true) (h2 : PyData.strOk b = true) : eqD (.str a) (.str b) = some (a == b) := by
  have sh : ∀ {x : Str}, PyData.strOk x = true → SeqAt.shaped (.str x) = true := fun {x} h => by
    unfold SeqAt.shaped PyData.canLay0 PyData.depth
    rw [h]; rfl
  unfold eqD
  rw [py_str, py_str]
  simp only
  rw [sh h1, sh h2, Bool.and_self, if_pos rfl]
  simp only [PyData.eqv]
theorem eqD_same {a : Str} (h1 : PyData.strOk a = true) : eqD (.str a) (.str a) = some true := by
  rw [eqD_str h1 h1]
  simp
end Mi
/-! MiDeck: the deck that all laws share. -/
namespace Mi
open PySem L2
theorem log2_of {n k : Nat} (h : n < 2 ^ k) (hk : 0 < k) : n.log2 < k := by
  by_cases h0 : n = 0
  · subst h0
    simpa using hk
  · exact (Nat.log2_lt h0).mpr h
theorem mulOk_of {i j : Int} (hi : i.natAbs < 2 ^ 64) (hj : j.natAbs < 2 ^ 64) : mulOk i j = true := by
  unfold mulOk
  have h1 := log2_of hi (by decide)
  have h2 := log2_of hj (by decide)
  exact decide_eq_true (by omega)
def dInt (x : Int) : T := .cl (.int x)
def dk (left : List Int) (b c : Int) : T := .ls [.ls (left.map dInt), .cl (.int b), .cl (.int c)]
def fDraw : Fn := ⟨2, 4, (.cons (.setx (.var 0) (.int 2) (.bin .add (.get (.ix (.var 0) (.int 2))) (.int 1))) (.cons (.asg 2 (.bin .add (.get (.ix (.var 0) (.int 1))) (.bin .mul (.bin .mul (.int 70001) (.get (.ix (.var 0) (.int 2)))) (.get (.ix (.var 0) (.int 2)))))) (.cons (.ite (.emp true (.ix (.var 0) (.int 0))) (.cons (.asg 3 (.pop (.ix (.var 0) (.int 0)))) (.cons (.ite (.cmp .ge (.get (.var 3)) (.bin .pow (.int 10) (.int 18))) (.cons (.app (.ix (.var 0) (.int 0)) (.bin .fdiv (.get (.var 3)) (.get (.var 1)))) (.cons (.ret (.bin .mod (.f1 .int (.get (.var 3))) (.get (.var 1)))) .nil)) .nil) (.cons (.asg 2 (.bin .add (.get (.var 2)) (.get (.var 3)))) .nil))) .nil) (.cons (.asg 2 (.bin .mod (.bin .mul (.bin .mod (.f1 .int (.get (.var 2))) (.int 2147483587)) (.int 48271)) (.int 2147483647))) (.cons (.asg 2 (.bin .mod (.f1 .int (.bin .add (.bin .add (.bin .mul (.get (.var 2)) (.get (.var 2))) (.bin .mul (.int 69621) (.get (.ix (.var 0) (.int 2))))) (.int 13))) (.int 2147483549))) (.cons (.ret (.bin .mod (.bin .fdiv (.bin .mod (.f1 .int (.bin .mul (.get (.var 2)) (.int 39373))) (.int 2147483629)) (.int 64)) (.get (.var 1)))) .nil))))))⟩
def bTail : Ss := (.cons (.asg 2 (.bin .mod (.bin .mul (.bin .mod (.f1 .int (.get (.var 2))) (.int 2147483587)) (.int 48271)) (.int 2147483647))) (.cons (.asg 2 (.bin .mod (.f1 .int (.bin .add (.bin .add (.bin .mul (.get (.var 2)) (.get (.var 2))) (.bin .mul (.int 69621) (.get (.ix (.var 0) (.int 2))))) (.int 13))) (.int 2147483549))) (.cons (.ret (.bin .mod (.bin .fdiv (.bin .mod (.f1 .int (.bin .mul (.get (.var 2)) (.int 39373))) (.int 2147483629)) (.int 64)) (.get (.var 1)))) .nil)))
theorem fm {a b : Int} (h : 0 < b) : 0 ≤ a.fmod b ∧ a.fmod b < b := ⟨Int.fmod_nonneg_of_pos a h, Int.fmod_lt_of_pos a h⟩
theorem at2 (left : List Int) (b c : Int) : atI [T.ls (left.map dInt), .cl (.int b), .cl (.int c)] 2 = some (.cl (.int c)) := rfl
theorem f1_int (i : Int) : f1D .int (.int i) = some (.cl (.int i)) := rfl
theorem tail_ok (c : Cfg) (left : List Int) (b n s β : Int) (o : Option S) (hn : n.natAbs < 2 ^ 64) (hs : 0 < s) : ∃ r sl', 0 ≤ r ∧ r < s ∧
    exs c bTail [some (.r 0), some (.r 1), some (.v (.int β)), o] [some (dk left b n), some (.cl (.int s)), none, none, none, none] = some (.rt (.cl (.int r)), sl', [some (dk left b n), some (.cl (.int s)), none, none, none, none]) := by
  have h1 := fm (a := β) (b := 2147483587) (by decide)
  generalize hu : β.fmod 2147483587 = u at h1
  have h2 := fm (a := u * 48271) (b := 2147483647) (by decide)
  generalize hv : (u * 48271).fmod 2147483647 = v at h2
  have h3 := fm (a := v * v + 69621 * n + 13) (b := 2147483549) (by decide)
  generalize hw : (v * v + 69621 * n + 13).fmod 2147483549 = w at h3
  have m1 : mulOk u 48271 = true := mulOk_of (by omega) (by decide)
  have m2 : mulOk v v = true := mulOk_of (by omega) (by omega)
  have m3 : mulOk 69621 n = true := mulOk_of (by decide) hn
  have m4 : mulOk w 39373 = true := mulOk_of (by omega) (by decide)
  have z1 : (2147483587 : Int) ≠ 0 := by decide
  have z2 : (2147483647 : Int) ≠ 0 := by decide
  have z3 : (2147483549 : Int) ≠ 0 := by decide
  have z4 : (2147483629 : Int) ≠ 0 := by decide
  have z5 : (64 : Int) ≠ 0 := by decide
  have z6 : (64 : Int).natAbs.log2 < 9000 := by decide
  have z7 : s ≠ 0 := by omega
  have hr := fm (a := ((w * 39373).fmod 2147483629).fdiv 64) hs
  refine ⟨_, [some (.r 0), some (.r 1), some (.v (.int w)), o], hr.1, hr.2, ?_⟩
  simp [bTail, exs, ex, ev, pt, x0, store, dk, ixT, at2, f1_int, d_cl, oB_add, oB_mod z1, oB_mod z2, oB_mod z3, oB_mod z4, oB_mod z7, oB_div z5 z6, oB_mul m1, oB_mul m2, oB_mul m3, oB_mul m4, hu, hv, hw, P.root, P.isVar]
theorem emp_row (left : List Int) : eqD (T.ls (left.map dInt)).d (.lst []) = some (decide (left = [])) := by
  have e : left.map dInt = cls (left.map .int) := by
    unfold cls
    rw [List.map_map]
    rfl
  rw [e, d_ls]
  exact eqD_ints left []
theorem at0 (L : T) (b c : Int) : atI [L, .cl (.int b), .cl (.int c)] 0 = some L := rfl
theorem at1 (L : T) (b c : Int) : atI [L, .cl (.int b), .cl (.int c)] 1 = some (.cl (.int b)) := rfl
theorem at2' (L : T) (b c : Int) : atI [L, .cl (.int b), .cl (.int c)] 2 = some (.cl (.int c)) := rfl
theorem put2 (L : T) (b c d : Int) : putIxT (.ls [L, .cl (.int b), .cl (.int c)]) (.int 2) (.cl (.int d)) = some (.ls [L, .cl (.int b), .cl (.int d)]) := rfl
theorem set0 (L L' : T) (b c : Int) : setIxT (.ls [L, .cl (.int b), .cl (.int c)]) (.int 0) L' = some (.ls [L', .cl (.int b), .cl (.int c)]) := rfl
theorem draw_eq : fDraw = ⟨2, 4, (.cons (.setx (.var 0) (.int 2) (.bin .add (.get (.ix (.var 0) (.int 2))) (.int 1))) (.cons (.asg 2 (.bin .add (.get (.ix (.var 0) (.int 1))) (.bin .mul (.bin .mul (.int 70001) (.get (.ix (.var 0) (.int 2)))) (.get (.ix (.var 0) (.int 2)))))) (.cons (.ite (.emp true (.ix (.var 0) (.int 0))) (.cons (.asg 3 (.pop (.ix (.var 0) (.int 0)))) (.cons (.ite (.cmp .ge (.get (.var 3)) (.bin .pow (.int 10) (.int 18))) (.cons (.app (.ix (.var 0) (.int 0)) (.bin .fdiv (.get (.var 3)) (.get (.var 1)))) (.cons (.ret (.bin .mod (.f1 .int (.get (.var 3))) (.get (.var 1)))) .nil)) .nil) (.cons (.asg 2 (.bin .add (.get (.var 2)) (.get (.var 3)))) .nil))) .nil) bTail)))⟩ := rfl
/-- no cell left -/
theorem draw_nil (g : List (Str × D)) (F : Fs) (b n s : Int) (h0 : 0 ≤ n) (hn : n < 2 ^ 30) (hs : 0 < s) : ∃ r, 0 ≤ r ∧ r < s ∧ runFn g F fDraw [dk [] b n, .cl (.int s)] = some (.cl (.int r), [dk [] b (n + 1), .cl (.int s)]) := by
  obtain ⟨r, sl', r1, r2, e⟩ := tail_ok ⟨F, 2, g⟩ [] b (n + 1) s (b + 70001 * (n + 1) * (n + 1)) none (by omega) hs
  refine ⟨r, r1, r2, ?_⟩
  have m1 : mulOk 70001 (n + 1) = true := mulOk_of (by decide) (by omega)
  have m2 : mulOk (70001 * (n + 1)) (n + 1) = true := mulOk_of (by omega) (by omega)
  have ee := emp_row []
  unfold dk at e ⊢
  rw [draw_eq]
  generalize ([] : List Int).map dInt = L at e ee ⊢
  simp [runFn, exs, ex, ev, pt, x0, store, upP, startSl, startRt, ixT, at0, at1, at2', put2, ee, d_cl, oB_add, oB_mul m1, oB_mul m2, P.root, P.isVar, List.range_succ, somes, tstOf, e]
theorem ten18 : opB .pow (.int 10) (.int 18) = some (.cl (.int 1000000000000000000)) := rfl
theorem draw_cons (g : List (Str × D)) (F : Fs) (ys : List Int) (y b n s : Int) (h0 : 0 ≤ n) (hn : n < 2 ^ 30) (hs : 0 < s) (hs2 : s < 2 ^ 64) (hl : ys.length < sizeLine) : ∃ r left', 0 ≤ r ∧ r < s ∧ left'.length ≤ ys.length + 1 ∧
    runFn g F fDraw [dk (ys ++ [y]) b n, .cl (.int s)] = some (.cl (.int r), [dk left' b (n + 1), .cl (.int s)]) := by
  have m1 : mulOk 70001 (n + 1) = true := mulOk_of (by decide) (by omega)
  have m2 : mulOk (70001 * (n + 1)) (n + 1) = true := mulOk_of (by omega) (by omega)
  have ee : eqD (T.ls ((ys ++ [y]).map dInt)).d (.lst []) = some false := by rw [emp_row]; simp
  have g1 : ((ys ++ [y]).map dInt).getLast? = some (.cl (.int y)) := by rw [List.map_append]; simp [dInt]
  have g2 : ((ys ++ [y]).map dInt).dropLast = ys.map dInt := by rw [List.map_append]; simp
  have z7 : s ≠ 0 := by omega
  have z8 : s.natAbs.log2 < 9000 := Nat.lt_trans (log2_of (k := 64) (by omega) (by decide)) (by decide)
  have hl2 : (ys.map dInt).length < sizeLine := by rw [List.length_map]; exact hl
  by_cases hy : 1000000000000000000 ≤ y
  · have hr := fm (a := y) hs
    refine ⟨_, ys ++ [y.fdiv s], hr.1, hr.2, by simp, ?_⟩
    have e3 : (ys ++ [y.fdiv s]).map dInt = ys.map dInt ++ [.cl (.int (y.fdiv s))] := by rw [List.map_append]; rfl
    unfold dk
    rw [e3, draw_eq]
    generalize (ys ++ [y]).map dInt = L at ee g1 g2 ⊢
    generalize ys.map dInt = L2 at g2 hl2 ⊢
    simp [runFn, exs, ex, ev, evq, pt, x0, store, upP, startSl, startRt, ixT, at0, at1, at2', put2, set0, ee, g1, g2, hl2, d_cl, oB_add, oB_mul m1, oB_mul m2, ten18, oC_ge, hy, oB_div z7 z8, oB_mod z7, f1_int, P.root, P.isVar, List.range_succ, somes, tstOf]
  · obtain ⟨r, sl', r1, r2, e⟩ := tail_ok ⟨F, 2, g⟩ ys b (n + 1) s (b + 70001 * (n + 1) * (n + 1) + y) (some (.v (.int y))) (by omega) hs
    refine ⟨r, ys, r1, r2, by omega, ?_⟩
    unfold dk at e ⊢
    rw [draw_eq]
    generalize (ys ++ [y]).map dInt = L at ee g1 g2 ⊢
    generalize ys.map dInt = L2 at g2 hl2 e ⊢
    simp [runFn, exs, ex, ev, pt, x0, store, upP, startSl, startRt, ixT, at0, at1, at2', put2, set0, ee, g1, g2, d_cl, oB_add, oB_mul m1, oB_mul m2, ten18, oC_ge, hy, P.root, P.isVar, List.range_succ, somes, tstOf, e]
/-- the deck's trees: at most 63 cells, at most m draws so far -/
def IsDk (t : T) (m : Nat) : Prop := ∃ left b n, t = dk left b n ∧ left.length ≤ 63 ∧ 0 ≤ n ∧ n ≤ (m : Int)
theorem draw_ok (g : List (Str × D)) (F : Fs) {t : T} {m : Nat} (h : IsDk t m) (hm : m < 2 ^ 30) {s : Int} (hs : 0 < s) (hs2 : s < 2 ^ 64) : ∃ r t', 0 ≤ r ∧ r < s ∧ IsDk t' (m + 1) ∧ runFn g F fDraw [t, .cl (.int s)] = some (.cl (.int r), [t', .cl (.int s)]) := by
  obtain ⟨left, b, n, rfl, hl, h0, hn⟩ := h
  rcases List.eq_nil_or_concat left with rfl | ⟨ys, y, rfl⟩
  · obtain ⟨r, r1, r2, e⟩ := draw_nil g F b n s h0 (by omega) hs
    exact ⟨r, _, r1, r2, ⟨[], b, n + 1, rfl, by simp, by omega, by omega⟩, e⟩
  · rw [List.concat_eq_append] at hl ⊢
    have hl2 : ys.length + 1 ≤ 63 := by simpa using hl
    obtain ⟨r, left', r1, r2, r3, e⟩ := draw_cons g F ys y b n s h0 (by omega) hs hs2 (by have : sizeLine = 16777216 := rfl; omega)
    exact ⟨r, _, r1, r2, ⟨left', b, n + 1, rfl, by omega, by omega, by omega⟩, e⟩
def bDeck : Ss := (.cons (.asg 2 (.bin .mod (.f1 .int (.bin .add (.bin .add (.bin .mul (.get (.var 2)) (.int 40692)) (.bin .mod (.f1 .int (.get (.var 3))) (.int 2147483563))) (.int 11))) (.int 2147483629))) .nil)
def fDeck : Fn := ⟨1, 4, (.cons (.par 1 2 (.rev (.f1 .list (.sl (.get (.var 0)) none (some (.int 63))))) (.int 92051)) (.cons (.frV (.var 3) 1 bDeck) (.cons (.ret (.lst (.cons (.get (.var 1)) (.cons (.get (.var 2)) (.cons (.int 0) .nil))))) .nil)))⟩
theorem leaves_d : ∀ xs : List Int, T.leaves (xs.map dInt) = some (xs.map .int)
  | [] => rfl
  | x :: xs => by
    rw [List.map_cons]
    show (T.leaves (xs.map dInt)).map _ = _
    rw [leaves_d xs]
    rfl
theorem deck_turn (c : Cfg) (β x : Int) (rt : Rt) (hb : 0 ≤ β ∧ β < 2147483629) : ∃ β', (0 ≤ β' ∧ β' < 2147483629) ∧ exs c bDeck [some (.r 0), some (.r 2), some (.v (.int β)), some (.v (.int x))] rt = some (.nx, [some (.r 0), some (.r 2), some (.v (.int β')), some (.v (.int x))], rt) := by
  have m1 : mulOk β 40692 = true := mulOk_of (by omega) (by decide)
  have z1 : (2147483563 : Int) ≠ 0 := by decide
  have z2 : (2147483629 : Int) ≠ 0 := by decide
  refine ⟨_, fm (a := β * 40692 + x.fmod 2147483563 + 11) (by decide), ?_⟩
  simp [bDeck, exs, ex, ev, pt, x0, store, d_cl, f1_int, oB_add, oB_mul m1, oB_mod z1, oB_mod z2, P.root, P.isVar]
theorem deck_go (c : Cfg) (xs : List Int) (s0 : T) : ∀ (m j : Nat) (β : Int) (o : Option S), m + j = xs.length → (0 ≤ β ∧ β < 2147483629) → ∃ β' o', forGoV (fun sl x => bind sl (.var 3) x) (fun sl rt => exs c bDeck sl rt) 1 2 xs.length m j [some (.r 0), some (.r 2), some (.v (.int β)), o]
    [some s0, none, some (.ls (xs.map dInt)), none, none] = some (.nx, [some (.r 0), some (.r 2), some (.v (.int β')), o'], [some s0, none, some (.ls (xs.map dInt)), none, none])
  | 0, j, β, o, hj, hb => by
    refine ⟨β, o, ?_⟩
    unfold forGoV
    simp [T.lst, leaves_d]
  | m + 1, j, β, o, hj, hb => by
    have hlt : j < xs.length := by omega
    obtain ⟨β1, hb1, e1⟩ := deck_turn c β xs[j] [some s0, none, some (.ls (xs.map dInt)), none, none] hb
    obtain ⟨β', o', e2⟩ := deck_go c xs s0 m (j + 1) β1 (some (.v (.int xs[j]))) (by omega) hb1
    refine ⟨β', o', ?_⟩
    have e3 : (xs.map D.int)[j]? = some (.int xs[j]) := by rw [List.getElem?_map, List.getElem?_eq_getElem hlt]; rfl
    unfold forGoV
    simp only [List.getElem?_cons_succ, List.getElem?_cons_zero, T.lst, leaves_d, List.length_map, if_true, e3]
    have hbd : bind [some (.r 0), some (.r 2), some (.v (.int β)), o] (.var 3) (.int xs[j]) = some [some (.r 0), some (.r 2), some (.v (.int β)), some (.v (.int xs[j]))] := by simp [bind]
    simp only [hbd, e1, e2]
theorem st_deck : bDeck.stores = [2] := rfl
theorem cls_dInt (xs : List Int) : cls (xs.map .int) = xs.map dInt := by
  unfold cls
  rw [List.map_map]
  rfl
theorem deck_ok (g : List (Str × D)) (F : Fs) (ns : List Int) : ∃ t, IsDk t 0 ∧ runFn g F fDeck [.cl (.scr ns)] = some (t, [.cl (.scr ns)]) := by
  have e1 : slD (.scr ns) none (some 63) = some (.ls (cls ((cut ns none (some 63)).map .int))) := rfl
  have e2 : (T.ls (cls ((cut ns none (some 63)).map D.int))).d = .lst ((cut ns none (some 63)).map .int) := d_ls _
  have hc : (cut ns none (some 63)).length ≤ 63 := by
    unfold cut
    rw [List.length_take]
    simp only [HT.sIx]
    rw [if_neg (by decide)]
    omega
  generalize cut ns none (some 63) = C at e1 e2 hc
  have e3 : f1D .list (.lst (C.map .int)) = some (.ls (cls (C.map .int))) := rfl
  have e4 : revD (.lst (C.map .int)) = some (.ls (C.reverse.map dInt)) := by
    show some (T.ls (cls (C.map D.int).reverse)) = _
    rw [← List.map_reverse, cls_dInt]
  have hr : C.reverse.length ≤ 63 := by rw [List.length_reverse]; exact hc
  generalize C.reverse = R at e4 hr
  generalize cls (C.map D.int) = L at e1 e2 e3
  generalize C.map D.int = X at e2 e3 e4
  obtain ⟨β', o', e5⟩ := deck_go ⟨F, 1, g⟩ R (.cl (.scr ns)) R.length 0 92051 none (by omega) (by omega)
  have z3 : 3 ≤ sizeLine := by decide
  refine ⟨dk R β' 0, ⟨R, β', 0, rfl, hr, by omega, by omega⟩, ?_⟩
  have e6 : T.lst (.ls (R.map dInt)) = some (R.map .int) := leaves_d R
  have e7 : (R.map D.int).length = R.length := List.length_map _
  unfold dk
  generalize R.map dInt = L5 at e4 e5 e6 ⊢
  generalize R.map D.int = X5 at e6 e7
  simp [runFn, fDeck, exs, ex, ev, evs, pt, x0, optI, store, usedBy, startSl, startRt, d_cl, e1, e2, e3, e4, e5, e6, e7, st_deck, P.root, P.isVar, List.range_succ, somes, z3]
end Mi
/-! MiLoop: loops of the evaluator by invariants. -/
namespace Mi
open PySem L2
theorem forGo_ind {g : Sl → D → Option Sl} {b : Sl → Rt → R3} (P : Nat → Sl → Rt → Prop) (N : Nat) : ∀ (xs : List D) (n : Nat) (sl : Sl) (rt : Rt), P n sl rt → n + xs.length = N →
    (∀ n x sl rt, x ∈ xs → n < N → P n sl rt → ∃ sl1, g sl x = some sl1 ∧ ∃ sl2 rt2, b sl1 rt = some (.nx, sl2, rt2) ∧ P (n + 1) sl2 rt2) →
    ∃ sl' rt', forGo g b xs sl rt = some (.nx, sl', rt') ∧ P N sl' rt'
  | [], n, sl, rt, h, hN, _ => ⟨sl, rt, rfl, by rw [← hN]; exact h⟩
  | x :: xs, n, sl, rt, h, hN, st => by
    rw [List.length_cons] at hN
    obtain ⟨sl1, e1, sl2, rt2, e2, h2⟩ := st n x sl rt List.mem_cons_self (by omega) h
    obtain ⟨sl', rt', e3, h3⟩ := forGo_ind P N xs (n + 1) sl2 rt2 h2 (by omega) fun n y sl rt m => st n y sl rt (List.mem_cons_of_mem _ m)
    refine ⟨sl', rt', ?_, h3⟩
    unfold forGo
    simp only [e1, e2]
    exact e3
theorem lcGo_none {g : D → Option Sl} {c : Sl → Rt → Option (Bool × Rt)} {e : Sl → Rt → Option (T × Rt)} {rt : Rt} : ∀ (xs : List D) (acc : List T), (∀ x ∈ xs, ∃ sl, g x = some sl ∧ c sl rt = some (false, rt)) → lcGo g c e xs acc rt = some (acc, rt)
  | [], acc, _ => rfl
  | x :: xs, acc, h => by
    obtain ⟨sl, e1, e2⟩ := h x List.mem_cons_self
    unfold lcGo
    simp only [e1, e2]
    exact lcGo_none xs acc fun y m => h y (List.mem_cons_of_mem _ m)
/-- all items taken: P holds of the list so far and the roots -/
theorem lcGo_ind {g : D → Option Sl} {c : Sl → Rt → Option (Bool × Rt)} {e : Sl → Rt → Option (T × Rt)} (P : List T → Rt → Prop) (N : Nat) : ∀ (xs : List D) (acc : List T) (rt : Rt), P acc rt → acc.length + xs.length = N → N ≤ sizeLine →
    (∀ x acc rt, x ∈ xs → acc.length < N → P acc rt → ∃ sl, g x = some sl ∧ ∃ rt1, c sl rt = some (true, rt1) ∧ ∃ t rt2, e sl rt1 = some (t, rt2) ∧ P (acc ++ [t]) rt2) →
    ∃ ts rt', lcGo g c e xs acc rt = some (ts, rt') ∧ P ts rt' ∧ ts.length = N
  | [], acc, rt, h, hN, _, _ => ⟨acc, rt, rfl, h, hN⟩
  | x :: xs, acc, rt, h, hN, hl, st => by
    rw [List.length_cons] at hN
    obtain ⟨sl, e1, rt1, e2, t, rt2, e3, h2⟩ := st x acc rt List.mem_cons_self (by omega) h
    obtain ⟨ts, rt', e4, h4, h5⟩ := lcGo_ind P N xs (acc ++ [t]) rt2 h2 (by rw [List.length_append, List.length_singleton]; omega) hl fun y acc rt m => st y acc rt (List.mem_cons_of_mem _ m)
    refine ⟨ts, rt', ?_, h4, h5⟩
    unfold lcGo
    simp only [e1, e2, e3]
    rw [if_pos (by omega)]
    exact e4
/-- .. and the roots stay: a plain map -/
theorem lcGo_map {α : Type} {g : D → Option Sl} {c : Sl → Rt → Option (Bool × Rt)} {e : Sl → Rt → Option (T × Rt)} {rt : Rt} (fd : α → D) (ft : α → T) : ∀ (xs : List α) (acc : List T), acc.length + xs.length ≤ sizeLine →
    (∀ x ∈ xs, ∃ sl, g (fd x) = some sl ∧ c sl rt = some (true, rt) ∧ e sl rt = some (ft x, rt)) → lcGo g c e (xs.map fd) acc rt = some (acc ++ xs.map ft, rt)
  | [], acc, _, _ => by simp [lcGo]
  | x :: xs, acc, hl, h => by
    obtain ⟨sl, e1, e2, e3⟩ := h x List.mem_cons_self
    rw [List.length_cons] at hl
    rw [List.map_cons]
    unfold lcGo
    simp only [e1, e2, e3]
    rw [if_pos (by omega), lcGo_map fd ft xs (acc ++ [ft x]) (by rw [List.length_append, List.length_singleton]; omega) fun y m => h y (List.mem_cons_of_mem _ m)]
    simp
theorem atI_nat {α : Type} {xs : List α} {r : Int} (h0 : 0 ≤ r) (h1 : r < xs.length) : ∃ x, x ∈ xs ∧ atI xs r = some x ∧ xs[r.toNat]? = some x := by
  have hr : r.toNat < xs.length := by omega
  refine ⟨xs[r.toNat], List.getElem_mem hr, ?_, List.getElem?_eq_getElem hr⟩
  unfold atI ixN
  rw [if_pos h0, if_pos h1]
  simp [hr]
/-! ### steps of the evaluator, forward -/
theorem ev_lc_of {c : Cfg} {mv : Bool} {sl : Sl} {own : List Nat} {tg : Tg} {it : It} {cond elt : E} {rt rt1 rt2 : Rt} {xs : List D} {ts : List T} (h1 : evI c sl it rt = some (xs, rt1))
    (h2 : lcGo (fun x => bind (wip sl own) tg x) (fun sl rt => tstOf (ev c false sl cond rt)) (fun sl rt => ev c false sl elt rt) xs [] rt1 = some (ts, rt2)) : ev c mv sl (.lc own tg it cond elt) rt = some (.ls ts, rt2) := by
  unfold ev
  rw [h1]
  simp only
  rw [h2]
theorem ev_bin_of {c : Cfg} {mv : Bool} {sl : Sl} {op : BOp} {a b : E} {rt rt1 rt2 : Rt} {x y t : T} (h1 : ev c false sl a rt = some (x, rt1)) (h2 : ev c false sl b rt1 = some (y, rt2)) (h3 : opB op x.d y.d = some t) : ev c mv sl (.bin op a b) rt = some (t, rt2) := by
  unfold ev
  rw [h1]
  simp only
  rw [h2]
  simp only
  rw [h3]
  rfl
theorem evI_rng1_of {c : Cfg} {sl : Sl} {a : E} {rt rt1 : Rt} {n : Int} (h1 : ev c false sl a rt = some (.cl (.int n), rt1)) (h2 : inRng n = true) : evI c sl (.rng1 a) rt = some (rngD 0 n.toNat, rt1) := by
  unfold evI
  rw [h1]
  simp only
  rw [if_pos h2]
theorem evI_rng2_of {c : Cfg} {sl : Sl} {a b : E} {rt rt1 rt2 : Rt} {m n : Int} (h1 : ev c false sl a rt = some (.cl (.int m), rt1)) (h2 : ev c false sl b rt1 = some (.cl (.int n), rt2)) (h3 : inRng m = true) (h4 : inRng n = true) : evI c sl (.rng2 a b) rt = some (rngD m (n - m).toNat, rt2) := by
  unfold evI
  rw [h1]
  simp only
  rw [h2]
  simp only
  rw [h3, h4, Bool.and_self, if_pos rfl]
theorem ex_fr_of {c : Cfg} {tg : Tg} {it : It} {b : Ss} {sl sl' : Sl} {rt rt1 rt2 : Rt} {xs : List D} {f : Fl} (h1 : evI c sl it rt = some (xs, rt1)) (h2 : forGo (fun sl x => bind sl tg x) (fun sl rt => exs c b sl rt) xs sl rt1 = some (f, sl', rt2)) : ex c (.fr tg it b) sl rt = some (f, sl', rt2) := by
  unfold ex
  rw [h1]
  exact h2
theorem exs_nx {c : Cfg} {s : St} {r : Ss} {sl sl' : Sl} {rt rt' : Rt} {o : R3} (h1 : ex c s sl rt = some (.nx, sl', rt')) (h2 : exs c r sl' rt' = o) : exs c (.cons s r) sl rt = o := by
  unfold exs
  rw [h1]
  exact h2
theorem exs_rt {c : Cfg} {s : St} {r : Ss} {sl sl' : Sl} {rt rt' : Rt} {t : T} (h1 : ex c s sl rt = some (.rt t, sl', rt')) : exs c (.cons s r) sl rt = some (.rt t, sl', rt') := by
  unfold exs
  rw [h1]
theorem runFn_rt {g : List (Str × D)} {F : Fs} {f : Fn} {as as' : List T} {t : T} {sl' : Sl} {rt' : Rt} (h : as.length = f.np) (e : exs ⟨F, f.np, g⟩ f.body (startSl f.np f.ns) (startRt f.ns as) = some (.rt t, sl', rt')) (hs : somes (rt'.take f.np) = some as') : runFn g F f as = some (t, as') := by
  unfold runFn
  rw [if_pos h, e]
  simp only
  rw [hs]
  rfl
theorem ex_ite_of {c : Cfg} {e : E} {a b : Ss} {sl : Sl} {rt rt1 : Rt} {v : Bool} {o : R3} (h1 : ev c false sl e rt = some (.cl (.bl v), rt1)) (h2 : (if v then exs c a sl rt1 else exs c b sl rt1) = o) : ex c (.ite e a b) sl rt = o := by
  unfold ex
  rw [h1]
  cases v
  · exact h2
  · exact h2
theorem ex_asg_of {c : Cfg} {i : Nat} {e : E} {sl sl' : Sl} {rt rt1 rt2 : Rt} {t : T} (h1 : ev c false sl e rt = some (t, rt1)) (h2 : store c i t sl rt1 = some (sl', rt2)) : ex c (.asg i e) sl rt = some (.nx, sl', rt2) := by
  unfold ex
  rw [h1]
  simp only
  rw [h2]
  rfl
theorem oB_cat {xs ys : List D} (h : xs.length + ys.length ≤ sizeLine) : opB .add (.lst xs) (.lst ys) = some (.ls (cls (xs ++ ys))) := by
  show (if xs.length + ys.length ≤ sizeLine then _ else _) = _
  rw [if_pos h]
theorem inRng_of {n : Int} (h1 : -(2 ^ 62) ≤ n) (h2 : n < 2 ^ 62) : inRng n = true := by
  unfold inRng
  rw [decide_eq_true h1, decide_eq_true h2]
  rfl
end Mi
/-! ### the core text, printed by gen.py -/
namespace Mi.Law
open PySem PySem.Spec PyProof.Rows L2
def top (i : Nat) : Stmt := PySem.Challenge.pw_runcounts_k31_calm_polynomials.main.body.getD i (.Pass ⟨0, 0, 0, 0⟩)
def p0 : List Str := ["polynomial", "number"]
def n0 : List Str := ["polynomial", "number", "found", "factor"]
/-- numbers_by -/
def f0 : Fn := ⟨2, 4, (.cons (.asg 2 (.lst .nil)) (.cons (.fr (.var 3) (.seq (.get (.var 0))) (.cons (.app (.var 2) (.ife (.emp false (.var 2)) (.get (.var 3)) (.bin .add (.bin .mul (.get (.ix (.var 2) (.neg (.int 1)))) (.get (.var 1))) (.get (.var 3))))) .nil)) (.cons (.ret (.get (.var 2))) .nil)))⟩
def p1 : List Str := ["polynomial", "number"]
def n1 : List Str := ["polynomial", "number"]
/-- is_calm -/
def f1 : Fn := ⟨2, 2, (.cons (.ret (.and (.cmp .ge (.get (.var 1)) (.int 0)) (.cmp .le (.f1 .max (.sl (.call 0 (.cons (.get (.var 0)) (.cons (.get (.var 1)) .nil)) .nil [0, 1]) (some (.int 1)) none)) (.int 0)))) .nil)⟩
def p2 : List Str := ["_law_script"]
def n2 : List Str := ["_law_script", "_law_left", "_law_blend", "_law_cell"]
/-- _law_deck -/
def f2 : Fn := ⟨1, 4, (.cons (.par 1 2 (.rev (.f1 .list (.sl (.get (.var 0)) none (some (.int 63))))) (.int 92051)) (.cons (.frV (.var 3) 1 (.cons (.asg 2 (.bin .mod (.f1 .int (.bin .add (.bin .add (.bin .mul (.get (.var 2)) (.int 40692)) (.bin .mod (.f1 .int (.get (.var 3))) (.int 2147483563))) (.int 11))) (.int 2147483629))) .nil)) (.cons (.ret (.lst (.cons (.get (.var 1)) (.cons (.get (.var 2)) (.cons (.int 0) .nil))))) .nil)))⟩
def p3 : List Str := ["_law_deck_here", "_law_size"]
def n3 : List Str := ["_law_deck_here", "_law_size", "_law_blend", "_law_cell"]
/-- _law_draw -/
def f3 : Fn := ⟨2, 4, (.cons (.setx (.var 0) (.int 2) (.bin .add (.get (.ix (.var 0) (.int 2))) (.int 1))) (.cons (.asg 2 (.bin .add (.get (.ix (.var 0) (.int 1))) (.bin .mul (.bin .mul (.int 70001) (.get (.ix (.var 0) (.int 2)))) (.get (.ix (.var 0) (.int 2)))))) (.cons (.ite (.emp true (.ix (.var 0) (.int 0))) (.cons (.asg 3 (.pop (.ix (.var 0) (.int 0)))) (.cons (.ite (.cmp .ge (.get (.var 3)) (.bin .pow (.int 10) (.int 18))) (.cons (.app (.ix (.var 0) (.int 0)) (.bin .fdiv (.get (.var 3)) (.get (.var 1)))) (.cons (.ret (.bin .mod (.f1 .int (.get (.var 3))) (.get (.var 1)))) .nil)) .nil) (.cons (.asg 2 (.bin .add (.get (.var 2)) (.get (.var 3)))) .nil))) .nil) (.cons (.asg 2 (.bin .mod (.bin .mul (.bin .mod (.f1 .int (.get (.var 2))) (.int 2147483587)) (.int 48271)) (.int 2147483647))) (.cons (.asg 2 (.bin .mod (.f1 .int (.bin .add (.bin .add (.bin .mul (.get (.var 2)) (.get (.var 2))) (.bin .mul (.int 69621) (.get (.ix (.var 0) (.int 2))))) (.int 13))) (.int 2147483549))) (.cons (.ret (.bin .mod (.bin .fdiv (.bin .mod (.f1 .int (.bin .mul (.get (.var 2)) (.int 39373))) (.int 2147483629)) (.int 64)) (.get (.var 1)))) .nil))))))⟩
def p4 : List Str := ["_law_deck_here", "_law_some"]
def n4 : List Str := ["_law_deck_here", "_law_some"]
/-- _law_pick -/
def f4 : Fn := ⟨2, 2, (.cons (.ret (.ix (.get (.var 1)) (.call 3 (.mut 0 (.cons (.x (.len (.var 1))) .nil)) .nil [0, 1]))) .nil)⟩
def p5 : List Str := ["_law_poly", "_law_m"]
def n5 : List Str := ["_law_poly", "_law_m", "_law_found", "_law_x"]
/-- _law_values -/
def f5 : Fn := ⟨2, 4, (.cons (.asg 2 (.lst .nil)) (.cons (.fr (.var 3) (.seq (.get (.var 0))) (.cons (.app (.var 2) (.ife (.emp false (.var 2)) (.get (.var 3)) (.bin .add (.bin .mul (.get (.ix (.var 2) (.neg (.int 1)))) (.get (.var 1))) (.get (.var 3))))) .nil)) (.cons (.ret (.get (.var 2))) .nil)))⟩
def p6 : List Str := ["_law_deck_here"]
def n6 : List Str := ["_law_deck_here", "_law_m", "_law_row", "_law_turn", "_law_poly", "_law_k"]
/-- _law_planted -/
def f6 : Fn := ⟨1, 6, (.cons (.parN 1 2 (.call 3 (.mut 0 (.cons (.int 9) .nil)) .nil [0, 1]) (.lst (.cons (.int 1) .nil))) (.cons (.fr (.var 3) (.rng1 (.bin .add (.int 1) (.call 3 (.mut 0 (.cons (.int 6) .nil)) .nil [0, 1]))) (.cons (.app (.var 2) (.neg (.call 4 (.mut 0 (.cons (.lst (.cons (.int 0) (.cons (.int 0) (.cons (.int 1) (.cons (.int 2) (.cons (.int 7) (.cons (.int 40) .nil))))))) .nil)) .nil [0, 1]))) .nil)) (.cons (.asg 4 (.bin .add (.lst (.cons (.int 1) .nil)) (.lc [5] (.var 5) (.rng2 (.int 1) (.x (.len (.var 2)))) (.bl true) (.bin .sub (.get (.ix (.var 2) (.rd (.var 5)))) (.bin .mul (.get (.var 1)) (.get (.ix (.var 2) (.sub (.rd (.var 5)) (.int 1))))))))) (.cons (.ite (.cmp .eq (.get (.ix (.var 4) (.neg (.int 1)))) (.int 0)) (.cons (.setx (.var 4) (.neg (.int 1)) (.neg (.int 1))) .nil) .nil) (.cons (.ret (.tup (.cons (.f1p .tuple (.var 4)) (.cons (.get (.var 1)) .nil)))) .nil)))))⟩
def p7 : List Str := ["_law_deck_here"]
def n7 : List Str := ["_law_deck_here", "_law_poly", "_law_turn"]
/-- _law_any -/
def f7 : Fn := ⟨1, 3, (.cons (.asg 1 (.bin .add (.lst (.cons (.int 1) .nil)) (.lc [2] (.var 2) (.rng1 (.bin .add (.int 1) (.call 3 (.mut 0 (.cons (.int 6) .nil)) .nil [0, 1]))) (.bl true) (.call 4 (.mut 0 (.cons (.lst (.cons (.int 0) (.cons (.int 1) (.cons (.neg (.int 1)) (.cons (.int 2) (.cons (.neg (.int 3)) (.cons (.neg (.int 40)) (.cons (.int 900) (.cons (.neg (.bin .pow (.int 10) (.int 6))) .nil))))))))) .nil)) .nil [0, 1])))) (.cons (.setx (.var 1) (.neg (.int 1)) (.ife (.cmp .ne (.get (.ix (.var 1) (.neg (.int 1)))) (.int 0)) (.get (.ix (.var 1) (.neg (.int 1)))) (.call 4 (.mut 0 (.cons (.lst (.cons (.int 1) (.cons (.neg (.int 1)) (.cons (.neg (.int 6)) .nil)))) .nil)) .nil [0, 1]))) (.cons (.ret (.f1p .tuple (.var 1))) .nil)))⟩
def p8 : List Str := ["_law_poly", "_law_m"]
def n8 : List Str := ["_law_poly", "_law_m", "_law_due", "_law_seen", "_law_told"]
/-- _law_is_told -/
def f8 : Fn := ⟨2, 5, (.cons (.par 2 3 (.and (.cmp .ge (.get (.var 1)) (.int 0)) (.cmp .le (.f1 .max (.sl (.call 5 (.cons (.get (.var 0)) (.cons (.get (.var 1)) .nil)) .nil [0, 1]) (some (.int 1)) none)) (.int 0))) (.f1 .repr (.get (.var 0)))) (.cons (.asg 4 (.lst (.cons (.call 1 (.cons (.get (.var 0)) (.cons (.get (.var 1)) .nil)) .nil [0, 1]) (.cons (.call 1 .nil (.cons (.get (.var 1)) (.cons (.get (.var 0)) .nil)) [1, 0]) .nil)))) (.cons (.ret (.and (.cmp .eq (.f1 .repr (.get (.var 4))) (.f1 .repr (.lst (.cons (.get (.var 2)) (.cons (.get (.var 2)) .nil))))) (.cmp .eq (.f1 .repr (.get (.var 0))) (.get (.var 3))))) .nil)))⟩
def p9 : List Str := ["_law_script"]
def n9 : List Str := ["_law_script", "_law_deck_here", "_law_turn", "_law_told", "_law_poly", "_law_m", "_law_far", "_law_some", "_law_k"]
/-- law -/
def f9 : Fn := ⟨1, 9, (.cons (.asg 1 (.call 2 (.cons (.get (.var 0)) .nil) .nil [0])) (.cons (.fr (.var 2) (.rng1 (.int 6)) (.cons (.asgT (.tup [(.var 4), (.var 5)]) (.call 6 (.mut 1 .nil) .nil [0])) (.cons (.asg 6 (.call 7 (.mut 1 .nil) .nil [0])) (.cons (.asg 7 (.bin .add (.lrg2 false (.neg (.int 3)) (.int 12)) (.lst (.cons (.get (.var 5)) (.cons (.neg (.get (.ix (.var 6) (.int 1)))) (.cons (.bin .fdiv (.neg (.get (.ix (.var 6) (.int 1)))) (.int 2)) (.cons (.bin .pow (.int 10) (.int 6)) (.cons (.neg (.bin .pow (.int 10) (.int 6))) (.cons (.call 3 (.mut 1 (.cons (.int 1000) .nil)) .nil [0, 1]) .nil))))))))) (.cons (.ite (.or (.cmp .notist (.call 1 (.cons (.get (.var 4)) (.cons (.get (.var 5)) .nil)) .nil [0, 1]) (.bl true)) (.cmp .ne (.lc [8] (.var 8) (.seq (.get (.var 7))) (.not (.call 8 (.cons (.get (.var 4)) (.cons (.get (.var 8)) .nil)) .nil [0, 1])) (.get (.var 8))) (.lst .nil))) (.cons (.ret (.bl false)) .nil) .nil) (.cons (.ite (.cmp .ne (.lc [8] (.var 8) (.seq (.get (.var 7))) (.not (.call 8 (.cons (.get (.var 6)) (.cons (.get (.var 8)) .nil)) .nil [0, 1])) (.get (.var 8))) (.lst .nil)) (.cons (.ret (.bl false)) .nil) .nil) .nil)))))) (.cons (.asg 3 (.lst (.cons (.call 1 (.cons (.tup (.cons (.int 1) (.cons (.neg (.int 1)) .nil))) (.cons (.int 0) .nil)) .nil [0, 1]) (.cons (.call 1 (.cons (.tup (.cons (.int 1) (.cons (.neg (.int 3)) (.cons (.int 2) .nil)))) (.cons (.int 1) .nil)) .nil [0, 1]) (.cons (.call 1 (.cons (.tup (.cons (.int 1) (.cons (.neg (.int 3)) (.cons (.int 2) .nil)))) (.cons (.int 0) .nil)) .nil [0, 1]) (.cons (.call 1 (.cons (.tup (.cons (.int 1) (.cons (.neg (.int 1)) (.cons (.neg (.int 1)) .nil)))) (.cons (.int 0) .nil)) .nil [0, 1]) .nil)))))) (.cons (.ret (.cmp .eq (.bin .add (.get (.var 3)) (.lst (.cons (.call 1 (.cons (.tup (.cons (.int 1) (.cons (.int 1) (.cons (.neg (.int 2)) .nil)))) (.cons (.int 0) .nil)) .nil [0, 1]) (.cons (.call 1 (.cons (.tup (.cons (.int 1) (.cons (.int 1) (.cons (.neg (.int 2)) .nil)))) (.cons (.neg (.int 1)) .nil)) .nil [0, 1]) .nil)))) (.lst (.cons (.bl true) (.cons (.bl true) (.cons (.bl false) (.cons (.bl true) (.cons (.bl false) (.cons (.bl false) .nil))))))))) .nil))))⟩
def G : List Fn := [f0, f1, f2, f3, f4, f5, f6, f7, f8, f9]
def pats : List (Nat × Nat × List Str × List Nat) := [(0, 2, [], [0, 1]), (3, 2, [], [0, 1]), (4, 2, [], [0, 1]), (1, 0, ["number", "polynomial"], [1, 0]), (1, 2, [], [0, 1]), (5, 2, [], [0, 1]), (8, 2, [], [0, 1]), (7, 1, [], [0]), (6, 1, [], [0]), (2, 1, [], [0])]
def I : Inf := ⟨["numbers_by", "is_calm", "_law_deck", "_law_draw", "_law_pick", "_law_values", "_law_planted", "_law_any", "_law_is_told", "law"], [], [], pats⟩
theorem s0 : FnScope n0 p0 (defScope (top 1)) := ⟨rfl, rfl, rfl, by decide +kernel, rfl, by decide +kernel, by decide +kernel⟩
theorem o0 : okSs I ⟨defScope (top 1), n0, fun _ => true⟩ f0.body (defBody (top 1)) = true := by decide +kernel
theorem s1 : FnScope n1 p1 (defScope (top 2)) := ⟨rfl, rfl, rfl, by decide +kernel, rfl, by decide +kernel, by decide +kernel⟩
theorem o1 : okSs I ⟨defScope (top 2), n1, fun _ => true⟩ f1.body (defBody (top 2)) = true := by decide +kernel
theorem s2 : FnScope n2 p2 (defScope (top 4)) := ⟨rfl, rfl, rfl, by decide +kernel, rfl, by decide +kernel, by decide +kernel⟩
theorem o2 : okSs I ⟨defScope (top 4), n2, fun _ => true⟩ f2.body (defBody (top 4)) = true := by decide +kernel
theorem s3 : FnScope n3 p3 (defScope (top 5)) := ⟨rfl, rfl, rfl, by decide +kernel, rfl, by decide +kernel, by decide +kernel⟩
theorem o3 : okSs I ⟨defScope (top 5), n3, fun _ => true⟩ f3.body (defBody (top 5)) = true := by decide +kernel
theorem s4 : FnScope n4 p4 (defScope (top 6)) := ⟨rfl, rfl, rfl, by decide +kernel, rfl, by decide +kernel, by decide +kernel⟩
theorem o4 : okSs I ⟨defScope (top 6), n4, fun _ => true⟩ f4.body (defBody (top 6)) = true := by decide +kernel
theorem s5 : FnScope n5 p5 (defScope (top 7)) := ⟨rfl, rfl, rfl, by decide +kernel, rfl, by decide +kernel, by decide +kernel⟩
theorem o5 : okSs I ⟨defScope (top 7), n5, fun _ => true⟩ f5.body (defBody (top 7)) = true := by decide +kernel
theorem s6 : FnScope n6 p6 (defScope (top 8)) := ⟨rfl, rfl, rfl, by decide +kernel, rfl, by decide +kernel, by decide +kernel⟩
theorem o6 : okSs I ⟨defScope (top 8), n6, fun _ => true⟩ f6.body (defBody (top 8)) = true := by decide +kernel
theorem s7 : FnScope n7 p7 (defScope (top 9)) := ⟨rfl, rfl, rfl, by decide +kernel, rfl, by decide +kernel, by decide +kernel⟩
theorem o7 : okSs I ⟨defScope (top 9), n7, fun _ => true⟩ f7.body (defBody (top 9)) = true := by decide +kernel
theorem s8 : FnScope n8 p8 (defScope (top 10)) := ⟨rfl, rfl, rfl, by decide +kernel, rfl, by decide +kernel, by decide +kernel⟩
theorem o8 : okSs I ⟨defScope (top 10), n8, fun _ => true⟩ f8.body (defBody (top 10)) = true := by decide +kernel
theorem s9 : FnScope n9 p9 (defScope (top 11)) := ⟨rfl, rfl, rfl, by decide +kernel, rfl, by decide +kernel, by decide +kernel⟩
theorem o9 : okSs I ⟨defScope (top 11), n9, fun _ => true⟩ f9.body (defBody (top 11)) = true := by decide +kernel
end Mi.Law
namespace Mi.Law
open PySem L2
/-- Horner's values behind the last one -/
def hor (m : Int) : List Int → List Int → List Int
  | acc, [] => acc
  | acc, x :: r => hor m (acc ++ [match acc.getLast? with | none => x | some y => y * m + x]) r
def ti (x : Int) : T := .cl (.int x)
def di (x : Int) : D := .int x
theorem atI_last {α : Type} (xs : List α) (y : α) : atI (xs ++ [y]) (-1) = some y := by
  unfold atI ixN
  rw [if_neg (by decide)]
  have h : -((xs ++ [y]).length : Int) ≤ -1 := by rw [List.length_append, List.length_singleton]; omega
  rw [if_pos h]
  have e : ((-1 : Int) + ((xs ++ [y]).length : Int)).toNat = xs.length := by rw [List.length_append, List.length_singleton]; omega
  simp only [e, Option.bind_some]
  simp
/-- all multiplications small -/
def horOk (m : Int) : List Int → List Int → Prop
  | acc, [] => acc.length ≤ 100
  | acc, x :: r => (match acc.getLast? with | none => True | some y => mulOk y m = true) ∧ horOk m (acc ++ [match acc.getLast? with | none => x | some y => y * m + x]) r
theorem horOk_len {m : Int} : ∀ {xs acc : List Int}, horOk m acc xs → acc.length + xs.length ≤ 100
  | [], acc, h => h
  | x :: xs, acc, h => by
    have := horOk_len h.2
    simp at this
    simp
    omega
theorem cls_ti (ts : List Int) : ts.map ti = cls (ts.map .int) := by
  unfold cls
  rw [List.map_map]
  rfl
theorem d_ti (ts : List Int) : (T.ls (ts.map ti)).d = .lst (ts.map .int) := by rw [cls_ti, d_ls]
theorem emp_ls (ts : List Int) : eqD (T.ls (ts.map ti)).d (.lst []) = some (decide (ts = [])) := by
  rw [d_ti]
  exact eqD_ints ts []
/-- the state behind a turn -/
def hst (a : T) (m : Int) (ts : List T) : Rt := [some a, some (ti m), none, none, some (.ls ts), none]
def hsl (o : Option S) : Sl := [some (.r 0), some (.r 1), some (.r 4), o]
def hb : Ss := .cons (.app (.var 2) (.ife (.emp false (.var 2)) (.get (.var 3)) (.bin .add (.bin .mul (.get (.ix (.var 2) (.neg (.int 1)))) (.get (.var 1))) (.get (.var 3))))) .nil
theorem turn0 (c : Cfg) (m : Int) (ts : List T) (x : Int) (a : T) (hl : ts.length < sizeLine) (he : eqD (T.ls ts).d (.lst []) = some true) :
    exs c hb (hsl (some (.v (.int x)))) (hst a m ts) = some (.nx, hsl (some (.v (.int x))), hst a m (ts ++ [ti x])) := by
  simp [exs, ex, ev, pt, x0, upP, P.isVar, ti, hb, hsl, hst, he, hl]
theorem turn1 (c : Cfg) (m : Int) (ts : List T) (x y : Int) (a : T) (hl : ts.length < sizeLine) (he : eqD (T.ls ts).d (.lst []) = some false) (hg : atI ts (-1) = some (.cl (.int y))) (hm : mulOk y m = true) :
    exs c hb (hsl (some (.v (.int x)))) (hst a m ts) = some (.nx, hsl (some (.v (.int x))), hst a m (ts ++ [ti (y * m + x)])) := by
  simp [exs, ex, ev, pt, x0, upP, P.isVar, ti, hb, hsl, hst, he, hl, hg, ixT, oB_add, oB_mul hm, d_cl]
theorem hor_go (c : Cfg) (m : Int) (a : T) : ∀ (xs acc : List Int) (o : Option S), horOk m acc xs → ∃ o', forGo (fun sl x => bind sl (.var 3) x) (fun sl rt => exs c hb sl rt) (xs.map .int) (hsl o) (hst a m (acc.map ti)) = some (.nx, hsl o', hst a m ((hor m acc xs).map ti))
  | [], acc, o, h => ⟨o, rfl⟩
  | x :: xs, acc, o, h => by
    have hl : (acc.map ti).length < sizeLine := by
      have := horOk_len h
      rw [List.length_map]
      simp at this
      have e : sizeLine = 16777216 := rfl
      omega
    have hbd : bind (hsl o) (.var 3) (.int x) = some (hsl (some (.v (.int x)))) := by simp [bind, hsl]
    have go : ∀ z : Int, exs c hb (hsl (some (.v (.int x)))) (hst a m (acc.map ti)) = some (.nx, hsl (some (.v (.int x))), hst a m (acc.map ti ++ [ti z])) → horOk m (acc ++ [z]) xs → hor m acc (x :: xs) = hor m (acc ++ [z]) xs →
        ∃ o', forGo (fun sl x => bind sl (.var 3) x) (fun sl rt => exs c hb sl rt) ((x :: xs).map .int) (hsl o) (hst a m (acc.map ti)) = some (.nx, hsl o', hst a m ((hor m acc (x :: xs)).map ti)) := fun z e1 e2 e3 => by
      obtain ⟨o', e4⟩ := hor_go c m a xs (acc ++ [z]) (some (.v (.int x))) e2
      refine ⟨o', ?_⟩
      rw [List.map_cons]
      unfold forGo
      simp only [hbd, e1]
      rw [e3, ← e4, List.map_append]
      rfl
    rcases List.eq_nil_or_concat acc with rfl | ⟨ys, y, rfl⟩
    · exact go x (turn0 c m _ x a hl (emp_ls [])) h.2 rfl
    · rw [List.concat_eq_append] at h hl go ⊢
      have gl : (ys ++ [y]).getLast? = some y := by simp
      have hh : horOk m (ys ++ [y]) (x :: xs) = ((match (ys ++ [y]).getLast? with | none => True | some y => mulOk y m = true) ∧ horOk m ((ys ++ [y]) ++ [match (ys ++ [y]).getLast? with | none => x | some y => y * m + x]) xs) := rfl
      rw [hh, gl] at h
      refine go (y * m + x) (turn1 c m _ x y a hl ?_ ?_ h.1) h.2 ?_
      · rw [emp_ls]; simp
      · rw [List.map_append]; exact atI_last _ _
      · show hor m ((ys ++ [y]) ++ [match (ys ++ [y]).getLast? with | none => x | some y => y * m + x]) xs = _
        rw [gl]
theorem f0_eq : f0 = ⟨2, 4, .cons (.asg 2 (.lst .nil)) (.cons (.fr (.var 3) (.seq (.get (.var 0))) hb) (.cons (.ret (.get (.var 2))) .nil))⟩ := rfl
theorem f5_eq : f5 = f0 := rfl
theorem run_nb (F : Fs) (g : List (Str × D)) (m : Int) (xs : List Int) (h : horOk m [] xs) : runFn g F f0 [.cl (.tup (xs.map .int)), ti m] = some (.ls ((hor m [] xs).map ti), [.cl (.tup (xs.map .int)), ti m]) := by
  obtain ⟨o', e⟩ := hor_go ⟨F, 2, g⟩ m (.cl (.tup (xs.map .int))) xs [] none h
  unfold hsl hst at e
  rw [f0_eq]
  simp [runFn, exs, ex, ev, evs, evI, store, startSl, startRt, usedBy, D.items, somes, pt, d_cl, List.range_succ, P.root, P.isVar] at e ⊢
  rw [e]
  simp [somes]
theorem sem_at {k f : Nat} {fn : Fn} (h : G[f]? = some fn) (as : List T) : sem I.glb G (k + 1) f as = runFn I.glb (sem I.glb G k) fn as := by
  show (match G[f]? with | none => none | some fn => runFn I.glb (sem I.glb G k) fn as) = _
  rw [h]
theorem nb_ok (k : Nat) (m : Int) (xs : List Int) (h : horOk m [] xs) : sem I.glb G (k + 1) 0 [.cl (.tup (xs.map .int)), ti m] = some (.ls ((hor m [] xs).map ti), [.cl (.tup (xs.map .int)), ti m]) := by
  rw [sem_at rfl]; exact run_nb _ _ m xs h
theorem vals_ok (k : Nat) (m : Int) (xs : List Int) (h : horOk m [] xs) : sem I.glb G (k + 1) 5 [.cl (.tup (xs.map .int)), ti m] = some (.ls ((hor m [] xs).map ti), [.cl (.tup (xs.map .int)), ti m]) := by
  rw [sem_at rfl]; exact run_nb _ _ m xs h
/-- all but the first at most 0 -/
def calmV : List Int → Bool
  | _ :: y :: r => decide (maxI y r ≤ 0)
  | _ => false
theorem cut1 (x : D) (xs : List D) : slD (.lst (x :: xs)) (some 1) none = some (.ls (cls xs)) := by
  show some (T.ls (cls (cut (x :: xs) (some 1) none))) = _
  have : cut (x :: xs) (some 1) none = xs := by
    unfold cut
    simp [HT.sIx]
  rw [this]
theorem hor_len (m : Int) : ∀ (xs acc : List Int), (hor m acc xs).length = acc.length + xs.length
  | [], acc => rfl
  | x :: xs, acc => by
    show (hor m (acc ++ [_]) xs).length = _
    rw [hor_len m xs, List.length_append, List.length_singleton, List.length_cons]
    omega
def calm (m : Int) (xs : List Int) : Bool := decide (0 ≤ m) && calmV (hor m [] xs)
theorem hor_two {m : Int} {xs : List Int} (h : 2 ≤ xs.length) : ∃ a b r, hor m [] xs = a :: b :: r := by
  have e := hor_len m xs []
  match hor m [] xs, e with
  | [], e => simp at e; omega
  | [_], e => simp at e; omega
  | a :: b :: r, _ => exact ⟨a, b, r, rfl⟩
theorem calm_ok (k : Nat) (m : Int) (xs : List Int) (h : horOk m [] xs) (h2 : 2 ≤ xs.length) : sem I.glb G (k + 2) 1 [.cl (.tup (xs.map .int)), ti m] = some (.cl (.bl (calm m xs)), [.cl (.tup (xs.map .int)), ti m]) := by
  rw [sem_at rfl]
  have e := nb_ok k m xs h
  obtain ⟨a, b, r, hr⟩ := hor_two (m := m) h2
  rw [hr] at e
  have e2 : (T.ls ((a :: b :: r).map ti)).d = .lst (.int a :: (b :: r).map .int) := d_ti _
  have e3 : f1D .max (.lst ((b :: r).map .int)) = some (.cl (.int (maxI b r))) := by
    show (intsOf _).bind _ = _
    rw [intsOf_map]
    rfl
  unfold calm
  rw [hr]
  unfold calmV
  by_cases hm : 0 ≤ m
  · rw [show ti m = T.cl (.int m) from rfl] at e ⊢
    generalize (a :: b :: r).map ti = L at e e2
    generalize (b :: r).map D.int = R at e2 e3
    have e4 := cut1 (.int a) R
    have e5 : (T.ls (cls R)).d = .lst R := d_ls R
    simp [runFn, f1, exs, ex, ev, evA, startSl, startRt, pt, x0, d_cl, List.range_succ, P.root, P.isVar, oC_ge, oC_le, argsOf, perm, mutsOf, clr, backOf, somes, optI, hm, e, e2, e3, e4, e5]
  · simp [runFn, f1, exs, ex, ev, evA, startSl, startRt, pt, x0, d_cl, List.range_succ, P.root, P.isVar, ti, oC_ge, oC_le, somes, hm]
theorem repr_row {xs : List Int} (hb : ∀ x ∈ xs, x.natAbs.log2 < 1920) (hl : xs.length ≤ 1000) : ∃ S, f1D .repr (.tup (xs.map .int)) = some (.cl (.str S)) ∧ eqD (.str S) (.str S) = some true :=
  ⟨_, repr_tup py_int lay_int (fun x m => show_int (hb x m)) hl, eqD_same (ok_shTup ok_int xs)⟩
theorem repr_two (b : Bool) : ∃ S, f1D .repr (.lst [.bl b, .bl b]) = some (.cl (.str S)) ∧ eqD (.str S) (.str S) = some true :=
  ⟨_, repr_lst (xs := [b, b]) py_bl lay_bl (fun x m => show_bl x) (by simp), eqD_same (ok_shLst ok_bl [b, b])⟩
theorem z2 : 2 ≤ sizeLine := by decide
theorem d_two (a b : D) : (T.ls [.cl a, .cl b]).d = .lst [a, b] := rfl
theorem told_ok (k : Nat) (m : Int) (xs : List Int) (h : horOk m [] xs) (h2 : 2 ≤ xs.length) (hb : ∀ x ∈ xs, x.natAbs.log2 < 1920) : sem I.glb G (k + 3) 8 [.cl (.tup (xs.map .int)), ti m] = some (.cl (.bl true), [.cl (.tup (xs.map .int)), ti m]) := by
  rw [sem_at rfl]
  have e := vals_ok (k + 1) m xs h
  have c := calm_ok k m xs h h2
  have hl : xs.length ≤ 1000 := by have := horOk_len h; simp at this; omega
  obtain ⟨S, s1, s2⟩ := repr_row hb hl
  obtain ⟨a, b, r, hr⟩ := hor_two (m := m) h2
  rw [hr] at e
  have e2 : (T.ls ((a :: b :: r).map ti)).d = .lst (.int a :: (b :: r).map .int) := d_ti _
  have e3 : f1D .max (.lst ((b :: r).map .int)) = some (.cl (.int (maxI b r))) := by
    show (intsOf _).bind _ = _
    rw [intsOf_map]
    rfl
  have cd : calm m xs = (decide (0 ≤ m) && decide (maxI b r ≤ 0)) := by unfold calm; rw [hr]; rfl
  rw [show ti m = T.cl (.int m) from rfl] at e c ⊢
  generalize xs.map D.int = X at *
  generalize (a :: b :: r).map ti = L at e e2
  generalize (b :: r).map D.int = R at e2 e3
  have e4 := cut1 (.int a) R
  have e5 : (T.ls (cls R)).d = .lst R := d_ls R
  generalize hB : calm m xs = B at c cd
  obtain ⟨S2, t1, t2⟩ := repr_two B
  by_cases hm : 0 ≤ m
  · have cd' : B = decide (maxI b r ≤ 0) := by rw [cd, decide_eq_true hm, Bool.true_and]
    simp [runFn, f8, exs, ex, ev, evs, evA, store, usedBy, startSl, startRt, pt, x0, d_cl, List.range_succ, P.root, P.isVar, oC_ge, oC_le, oC_eq, argsOf, perm, mutsOf, clr, backOf, somes, optI, hm, e, e2, e3, e4, e5, s1, s2, c, t1, t2, ← cd', d_two, z2, close]
  · have cd' : B = false := by rw [cd, decide_eq_false hm]; rfl
    subst cd'
    simp [runFn, f8, exs, ex, ev, evs, evA, store, usedBy, startSl, startRt, pt, x0, d_cl, List.range_succ, P.root, P.isVar, oC_ge, oC_le, oC_eq, argsOf, perm, mutsOf, clr, backOf, somes, optI, hm, s1, s2, c, t1, t2, d_two, z2, close]
end Mi.Law
namespace Mi.Law
open PySem L2
theorem draw_s (k : Nat) {t : T} {m : Nat} (h : IsDk t m) (hm : m < 2 ^ 30) {s : Int} (hs : 0 < s) (hs2 : s < 2 ^ 64) : ∃ r t', 0 ≤ r ∧ r < s ∧ IsDk t' (m + 1) ∧ sem I.glb G (k + 1) 3 [t, .cl (.int s)] = some (.cl (.int r), [t', .cl (.int s)]) := by
  rw [sem_at rfl]
  exact draw_ok _ _ h hm hs hs2
theorem pick_s (k : Nat) {t : T} {m : Nat} (h : IsDk t m) (hm : m < 2 ^ 30) {xs : List Int} (h0 : 0 < xs.length) (hl : xs.length < 2 ^ 20) : ∃ x t', x ∈ xs ∧ IsDk t' (m + 1) ∧ sem I.glb G (k + 2) 4 [t, .cl (.lst (xs.map .int))] = some (.cl (.int x), [t', .cl (.lst (xs.map .int))]) := by
  obtain ⟨r, t', r0, r1, h', e⟩ := draw_s k h hm (s := (xs.length : Int)) (by omega) (by omega)
  obtain ⟨x, mx, eX, eX2⟩ := atI_nat (xs := xs.map D.int) r0 (by rw [List.length_map]; exact r1)
  obtain ⟨y, my, rfl⟩ := List.mem_map.mp mx
  refine ⟨y, t', my, h', ?_⟩
  rw [sem_at rfl]
  have el : lenD (.lst (xs.map .int)) = some (xs.length : Int) := by show some ((xs.map D.int).length : Int) = _; rw [List.length_map]
  have ei : ixD (.lst (xs.map .int)) (.int r) = some (.int y) := eX
  generalize xs.map D.int = X at *
  simp [runFn, f4, exs, ex, ev, evs, evA, store, usedBy, startSl, startRt, pt, x0, d_cl, List.range_succ, P.root, P.isVar, argsOf, perm, mutsOf, clr, backOf, somes, e, el, ei]
end Mi.Law
namespace Mi.Law
open PySem L2
theorem IsDk.le {t : T} {m n : Nat} (h : IsDk t m) (hl : m ≤ n) : IsDk t n := by
  obtain ⟨l, b, c, h1, h2, h3, h4⟩ := h
  exact ⟨l, b, c, h1, h2, h3, by omega⟩
def menu : List Int := [0, 1, -1, 2, -3, -40, 900, -1000000]
def eMenu : E := (.lst (.cons (.int 0) (.cons (.int 1) (.cons (.neg (.int 1)) (.cons (.int 2) (.cons (.neg (.int 3)) (.cons (.neg (.int 40)) (.cons (.int 900) (.cons (.neg (.bin .pow (.int 10) (.int 6))) .nil)))))))))
def ePick : E := .call 4 (.mut 0 (.cons eMenu .nil)) .nil [0, 1]
def eAny : E := .lc [2] (.var 2) (.rng1 (.bin .add (.int 1) (.call 3 (.mut 0 (.cons (.int 6) .nil)) .nil [0, 1]))) (.bl true) ePick
def menu2 : List Int := [1, -1, -6]
def eMenu2 : E := (.lst (.cons (.int 1) (.cons (.neg (.int 1)) (.cons (.neg (.int 6)) .nil))))
def ePick2 : E := .call 4 (.mut 0 (.cons eMenu2 .nil)) .nil [0, 1]
theorem f7_eq : f7 = ⟨1, 3, (.cons (.asg 1 (.bin .add (.lst (.cons (.int 1) .nil)) eAny)) (.cons (.setx (.var 1) (.neg (.int 1)) (.ife (.cmp .ne (.get (.ix (.var 1) (.neg (.int 1)))) (.int 0)) (.get (.ix (.var 1) (.neg (.int 1)))) ePick2)) (.cons (.ret (.f1p .tuple (.var 1))) .nil)))⟩ := rfl
theorem ten6 : opB .pow (.int 10) (.int 6) = some (.cl (.int 1000000)) := rfl
theorem z8 : 8 ≤ sizeLine := by decide
theorem z3 : 3 ≤ sizeLine := by decide
theorem menu_ev (c : Cfg) (sl : Sl) (rt : Rt) : ev c false sl eMenu rt = some (.ls (menu.map ti), rt) := by
  simp [eMenu, ev, evs, menu, ti, d_cl, ten6, z8]
theorem menu2_ev (c : Cfg) (sl : Sl) (rt : Rt) : ev c false sl eMenu2 rt = some (.ls (menu2.map ti), rt) := by
  simp [eMenu2, ev, evs, menu2, ti, d_cl, z3]
/-- a pick from a menu, in the frame of a def whose deck is its first argument -/
theorem pick_ev (k : Nat) {e : E} {xs : List Int} (he : ∀ c sl rt, ev c false sl e rt = some (.ls (xs.map ti), rt)) {np : Nat} {t : T} {m : Nat} (h : IsDk t m) (hm : m < 2 ^ 30) (h0 : 0 < xs.length) (hl : xs.length < 2 ^ 20) (sl : List (Option S)) (rt : Rt) :
    ∃ x t', x ∈ xs ∧ IsDk t' (m + 1) ∧ ev ⟨sem I.glb G (k + 2), np, I.glb⟩ false (some (.r 0) :: sl) (.call 4 (.mut 0 (.cons e .nil)) .nil [0, 1]) (some t :: rt) = some (.cl (.int x), some t' :: rt) := by
  obtain ⟨x, t', mx, h', e1⟩ := pick_s k h hm h0 hl
  refine ⟨x, t', mx, h', ?_⟩
  have ed := d_ti xs
  generalize xs.map D.int = X at *
  generalize xs.map ti = Y at *
  simp [ev, evA, evs, he, argsOf, perm, mutsOf, clr, backOf, e1, ed, d_cl]
theorem draw_ev (k : Nat) {s : Int} (hs : 0 < s) (hs2 : s < 2 ^ 64) {np : Nat} {t : T} {m : Nat} (h : IsDk t m) (hm : m < 2 ^ 30) (sl : List (Option S)) (rt : Rt) :
    ∃ r t', 0 ≤ r ∧ r < s ∧ IsDk t' (m + 1) ∧ ev ⟨sem I.glb G (k + 1), np, I.glb⟩ false (some (.r 0) :: sl) (.call 3 (.mut 0 (.cons (.int s) .nil)) .nil [0, 1]) (some t :: rt) = some (.cl (.int r), some t' :: rt) := by
  obtain ⟨r, t', r0, r1, h', e1⟩ := draw_s k h hm hs hs2
  refine ⟨r, t', r0, r1, h', ?_⟩
  simp [ev, evA, evs, argsOf, perm, mutsOf, clr, backOf, e1, d_cl]
theorem rng_len (lo : Int) (n : Nat) : (rngD lo n).length = n := by unfold rngD; simp
theorem any_ev (k : Nat) {t : T} {m : Nat} (h : IsDk t m) (hm : m < 2 ^ 29) : ∃ xs t', xs ≠ [] ∧ xs.length ≤ 6 ∧ (∀ x ∈ xs, x ∈ menu) ∧ IsDk t' (m + 7) ∧
    ev ⟨sem I.glb G (k + 2), 1, I.glb⟩ false [some (.r 0), none, none] eAny [some t, none, none, none] = some (.ls (xs.map ti), [some t', none, none, none]) := by
  obtain ⟨r, t1, r0, r1, h1, e1⟩ := draw_ev (k + 1) (s := 6) (by decide) (by decide) (np := 1) h (by omega) [none, none] [none, none, none]
  have st := lcGo_ind (g := fun x => bind (wip [some (.r 0), none, none] [2]) (.var 2) x) (c := fun sl rt => tstOf (ev ⟨sem I.glb G (k + 2), 1, I.glb⟩ false sl (.bl true) rt)) (e := fun sl rt => ev ⟨sem I.glb G (k + 2), 1, I.glb⟩ false sl ePick rt)
    (fun acc rt => ∃ t' xs, rt = [some t', none, none, none] ∧ IsDk t' (m + 1 + acc.length) ∧ acc = xs.map ti ∧ ∀ x ∈ xs, x ∈ menu) (1 + r).toNat (rngD 0 (1 + r).toNat) [] [some t1, none, none, none]
    ⟨t1, [], rfl, h1, rfl, fun _ h => by cases h⟩ (by rw [rng_len]; simp) (by have : sizeLine = 16777216 := rfl; omega)
    (fun x acc rt mx hl P => by
      obtain ⟨t', xs, rfl, h', rfl, hx⟩ := P
      obtain ⟨y, t2, my, h2, e2⟩ := pick_ev k menu_ev (np := 1) h' (by omega) (by decide) (by decide) [none, some (.v x)] [none, none, none]
      refine ⟨[some (.r 0), none, some (.v x)], rfl, [some t', none, none, none], rfl, ti y, [some t2, none, none, none], e2, t2, xs ++ [y], rfl, ?_, ?_, ?_⟩
      · rw [List.length_append]; exact h2
      · rw [List.map_append]; rfl
      · intro z hz
        rcases List.mem_append.mp hz with hz | hz
        · exact hx z hz
        · rw [List.mem_singleton.mp hz]; exact my)
  obtain ⟨ts, rt', e2, ⟨t', xs, rfl, h', rfl, hx⟩, hlen⟩ := st
  rw [List.length_map] at hlen h'
  refine ⟨xs, t', ?_, ?_, hx, IsDk.le h' ?_, ?_⟩
  · intro e
    subst e
    simp at hlen
    omega
  · omega
  · omega
  · refine ev_lc_of (evI_rng1_of (ev_bin_of (x := ti 1) (by simp [ev, ti]) e1 rfl) (inRng_of (by omega) (by omega))) e2
/-- numbers of a menu -/
def IsRow (xs : List Int) : Prop := 2 ≤ xs.length ∧ xs.length ≤ 7 ∧ ∀ x ∈ xs, x.natAbs ≤ 1000000
theorem menu_le {x : Int} (h : x ∈ menu) : x.natAbs ≤ 1000000 := by
  have : ∀ x ∈ menu, x.natAbs ≤ 1000000 := by decide
  exact this x h
theorem menu2_le {x : Int} (h : x ∈ menu2) : x.natAbs ≤ 1000000 := by
  have : ∀ x ∈ menu2, x.natAbs ≤ 1000000 := by decide
  exact this x h
theorem set_last {α : Type} (xs : List α) (y z : α) : (xs ++ [y]).set xs.length z = xs ++ [z] := by
  induction xs with
  | nil => rfl
  | cons x xs ih => rw [List.cons_append, List.length_cons, List.set_cons_succ, ih]; rfl
theorem put_last (ts : List T) (y z : T) : putIxT (.ls (ts ++ [y])) (.int (-1)) z = some (.ls (ts ++ [z])) := by
  show (ixN (ts ++ [y]).length (-1)).map (fun j => T.ls ((ts ++ [y]).set j z)) = _
  have : ixN (ts ++ [y]).length (-1) = some ts.length := by
    unfold ixN
    rw [if_neg (by decide), List.length_append, List.length_singleton, if_pos (by omega)]
    congr 1
    omega
  rw [this]
  show some (T.ls ((ts ++ [y]).set ts.length z)) = _
  rw [set_last]
theorem ixT_last (ts : List T) (y : T) : ixT (.ls (ts ++ [y])) (.int (-1)) = some y := atI_last ts y
theorem leaves_ti (xs : List Int) : T.leaves (xs.map ti) = some (xs.map .int) := leaves_d xs
theorem d_one (a : D) : (T.ls [.cl a]).d = .lst [a] := rfl
theorem any_ok (k : Nat) {t : T} {m : Nat} (h : IsDk t m) (hm : m < 2 ^ 29) : ∃ xs t', IsRow xs ∧ IsDk t' (m + 8) ∧ sem I.glb G (k + 3) 7 [t] = some (.cl (.tup (xs.map .int)), [t']) := by
  rw [sem_at rfl]
  obtain ⟨xs, t1, hne, hl, hx, h1, e1⟩ := any_ev k h hm
  obtain ⟨ys, y, rfl⟩ : ∃ ys y, xs = ys ++ [y] := by
    rcases List.eq_nil_or_concat xs with rfl | ⟨ys, y, rfl⟩
    · exact absurd rfl hne
    · exact ⟨ys, y, List.concat_eq_append⟩
  rw [List.length_append, List.length_singleton] at hl
  have a1 : opB .add (.lst [.int 1]) (.lst ((ys ++ [y]).map .int)) = some (.ls ((1 :: ys).map ti ++ [ti y])) := by
    show (if _ then _ else _) = _
    rw [if_pos (by simp; have : sizeLine = 16777216 := rfl; omega)]
    simp [cls, ti]
  have ed := d_ti (ys ++ [y])
  have hy := menu_le (hx y (by simp))
  have hys : ∀ x ∈ ys, x.natAbs ≤ 1000000 := fun x hx' => menu_le (hx x (by simp [hx']))
  have row : ∀ z : Int, z.natAbs ≤ 1000000 → IsRow (1 :: ys ++ [z]) := fun z hz => by
    refine ⟨by simp, by simp; omega, ?_⟩
    intro x hx
    simp at hx
    rcases hx with rfl | hx | rfl
    · decide
    · exact hys x hx
    · exact hz
  have done : ∀ z : Int, T.items (.ls ((1 :: ys).map ti ++ [ti z])) = some ((1 :: ys ++ [z]).map .int) := fun z => by
    rw [show (1 :: ys).map ti ++ [ti z] = (1 :: ys ++ [z]).map ti by simp]
    exact leaves_ti _
  have dd : ∀ z : Int, (T.ls ((1 :: ys).map ti ++ [ti z])).d = .lst ((1 :: ys ++ [z]).map .int) := fun z => by
    rw [show (1 :: ys).map ti ++ [ti z] = (1 :: ys ++ [z]).map ti by simp]
    exact d_ti _
  have z1 : 1 ≤ sizeLine := by decide
  by_cases h0 : y = 0
  · subst h0
    obtain ⟨z, t2, mz, h2, e2⟩ := pick_ev k menu2_ev (np := 1) h1 (by omega) (by decide) (by decide) [some (.r 2), none] [none, some (.ls ((1 :: ys).map ti ++ [ti 0])), none]
    refine ⟨1 :: ys ++ [z], t2, row z (menu2_le mz), h2, ?_⟩
    have p1 := put_last ((1 :: ys).map ti) (ti 0) (ti z)
    have g1 := ixT_last ((1 :: ys).map ti) (ti 0)
    have dz := done z
    have ddz := dd z
    have g2 : f1D .tuple (.lst ((1 :: ys ++ [z]).map .int)) = some (.cl (.tup ((1 :: ys ++ [z]).map .int))) := rfl
    rw [f7_eq]
    have eq0 : eqD (.int 0) (.int 0) = some true := by rw [eqD_int]; rfl
    change ev _ _ _ ePick2 _ = _ at e2
    generalize (1 :: ys ++ [z]).map D.int = Z at *
    generalize (1 :: ys).map ti ++ [ti z] = Z2 at *
    generalize (1 :: ys).map ti ++ [ti 0] = Y2 at *
    generalize (ys ++ [0]).map ti = W2 at *
    generalize (ys ++ [0]).map D.int = W at *
    unfold ti at *
    simp [runFn, exs, ex, ev, evs, store, usedBy, upP, startSl, startRt, pt, x0, d_cl, List.range_succ, P.root, P.isVar, d_one, somes, oC_ne, a1, e1, ed, z1, g1, eq0, e2, p1, dz, ddz, g2]
  · refine ⟨1 :: ys ++ [y], t1, row y hy, IsDk.le h1 (by omega), ?_⟩
    have p1 := put_last ((1 :: ys).map ti) (ti y) (ti y)
    have g1 := ixT_last ((1 :: ys).map ti) (ti y)
    have dz := done y
    have ddz := dd y
    have g2 : f1D .tuple (.lst ((1 :: ys ++ [y]).map .int)) = some (.cl (.tup ((1 :: ys ++ [y]).map .int))) := rfl
    rw [f7_eq]
    have eq0 : eqD (.int y) (.int 0) = some false := by rw [eqD_int, decide_eq_false h0]
    generalize (1 :: ys ++ [y]).map D.int = Z at *
    generalize (1 :: ys).map ti ++ [ti y] = Z2 at *
    generalize (ys ++ [y]).map ti = W2 at *
    generalize (ys ++ [y]).map D.int = W at *
    unfold ti at *
    simp [runFn, exs, ex, ev, evs, store, usedBy, upP, startSl, startRt, pt, x0, d_cl, List.range_succ, P.root, P.isVar, d_one, somes, oC_ne, a1, e1, ed, z1, g1, eq0, p1, dz, ddz, g2]
end Mi.Law
namespace Mi.Law
open PySem L2
def dif (m : Int) : List Int → List Int
  | x :: y :: r => (y - m * x) :: dif m (y :: r)
  | _ => []
theorem hor_dif (m : Int) : ∀ (r acc : List Int) (x : Int), hor m (acc ++ [x]) (dif m (x :: r)) = acc ++ (x :: r)
  | [], acc, x => rfl
  | y :: r, acc, x => by
    have e : hor m (acc ++ [x]) (dif m (x :: y :: r)) = hor m ((acc ++ [x]) ++ [match (acc ++ [x]).getLast? with | none => y - m * x | some z => z * m + (y - m * x)]) (dif m (y :: r)) := rfl
    have e2 : (acc ++ [x]).getLast? = some x := by simp
    rw [e, e2]
    simp only
    rw [show x * m + (y - m * x) = y by rw [Int.mul_comm]; omega, hor_dif m r (acc ++ [x]) y]
    simp
theorem hor_snoc (m w : Int) : ∀ (xs acc : List Int), hor m acc (xs ++ [w]) = hor m acc xs ++ [match (hor m acc xs).getLast? with | none => w | some y => y * m + w]
  | [], acc => rfl
  | x :: xs, acc => hor_snoc m w xs _
theorem dif_snoc (m y z : Int) : ∀ ys : List Int, dif m (ys ++ [y, z]) = dif m (ys ++ [y]) ++ [z - m * y]
  | [] => rfl
  | [a] => rfl
  | a :: b :: r => by
    show (b - m * a) :: dif m ((b :: r) ++ [y, z]) = (b - m * a) :: dif m ((b :: r) ++ [y]) ++ _
    rw [dif_snoc m y z (b :: r)]
    rfl
theorem dif_len (m : Int) : ∀ xs : List Int, (dif m xs).length = xs.length - 1
  | [] => rfl
  | [a] => rfl
  | a :: b :: r => by
    show (dif m (b :: r)).length + 1 = _
    rw [dif_len m (b :: r)]
    rfl
theorem dif_rng (m : Int) : ∀ xs : List Int, (List.range (xs.length - 1)).map (fun i => xs.getD (i + 1) 0 - m * xs.getD i 0) = dif m xs
  | [] => rfl
  | [a] => rfl
  | a :: b :: r => by
    have ih := dif_rng m (b :: r)
    simp only [List.length_cons, Nat.add_sub_cancel] at ih ⊢
    rw [List.range_succ_eq_map, List.map_cons, List.map_map]
    show _ :: _ = _ :: dif m (b :: r)
    rw [← ih]
    rfl
theorem dif_le {m : Int} (hm : 0 ≤ m ∧ m < 9) : ∀ xs : List Int, (∀ x ∈ xs, x.natAbs ≤ 40) → ∀ x ∈ dif m xs, x.natAbs ≤ 400
  | [], _, _, h => by cases h
  | [a], _, _, h => by cases h
  | a :: b :: r, hx, z, h => by
    rcases List.mem_cons.mp h with rfl | h
    · have ha := hx a (by simp)
      have hb := hx b (by simp)
      have e : (m * a).natAbs = m.natAbs * a.natAbs := Int.natAbs_mul m a
      have e2 : m.natAbs * a.natAbs ≤ 8 * 40 := Nat.mul_le_mul (by omega) ha
      omega
    · exact dif_le hm (b :: r) (fun x m => hx x (List.mem_cons_of_mem _ m)) z h
theorem maxI_le : ∀ (r : List Int) (y c : Int), y ≤ c → (∀ x ∈ r, x ≤ c) → maxI y r ≤ c
  | [], y, c, h, _ => h
  | x :: r, y, c, h, hr => by
    unfold maxI
    refine maxI_le r _ c ?_ fun z m => hr z (List.mem_cons_of_mem _ m)
    have := hr x List.mem_cons_self
    split <;> assumption
/-- the planted polynomial's last number w, behind a row of Horner's values -/
theorem calm_of {m y w : Int} {ys : List Int} (hm : 0 ≤ m) (h1 : ∀ x ∈ ys ++ [y], x ≤ 0) (hw : y * m + w ≤ 0) : calm m (1 :: dif m (1 :: ys ++ [y]) ++ [w]) = true := by
  have e : hor m [] (1 :: dif m (1 :: ys ++ [y])) = 1 :: ys ++ [y] := hor_dif m (ys ++ [y]) [] 1
  unfold calm
  rw [hor_snoc, e]
  have e2 : (1 :: ys ++ [y]).getLast? = some y := by rw [List.getLast?_append]; rfl
  rw [e2, decide_eq_true hm]
  simp only [Bool.true_and]
  cases ys with
  | nil =>
    show decide (maxI y [y * m + w] ≤ 0) = true
    exact decide_eq_true (maxI_le _ _ _ (h1 y (by simp)) (by intro x hx; rw [List.mem_singleton.mp hx]; exact hw))
  | cons a r =>
    show decide (maxI a (r ++ [y] ++ [y * m + w]) ≤ 0) = true
    refine decide_eq_true (maxI_le _ _ _ (h1 a (by simp)) ?_)
    intro x hx
    simp at hx
    rcases hx with hx | rfl | rfl
    · exact h1 x (by simp [hx])
    · exact h1 x (by simp)
    · exact hw
theorem calm_of0 {m w : Int} (hm : 0 ≤ m) (hw : m + w ≤ 0) : calm m [1, w] = true := by
  unfold calm
  rw [decide_eq_true hm]
  show (true && decide (maxI (1 * m + w) [] ≤ 0)) = true
  rw [decide_eq_true (show maxI (1 * m + w) [] ≤ 0 by show 1 * m + w ≤ 0; omega)]
  rfl
def menu3 : List Int := [0, 0, 1, 2, 7, 40]
def eMenu3 : E := (.lst (.cons (.int 0) (.cons (.int 0) (.cons (.int 1) (.cons (.int 2) (.cons (.int 7) (.cons (.int 40) .nil)))))))
def ePick3 : E := .call 4 (.mut 0 (.cons eMenu3 .nil)) .nil [0, 1]
def sNeg : Ss := (.cons (.app (.var 2) (.neg ePick3)) .nil)
def sRow : St := .fr (.var 3) (.rng1 (.bin .add (.int 1) (.call 3 (.mut 0 (.cons (.int 6) .nil)) .nil [0, 1]))) sNeg
def eDif : E := (.lc [5] (.var 5) (.rng2 (.int 1) (.x (.len (.var 2)))) (.bl true) (.bin .sub (.get (.ix (.var 2) (.rd (.var 5)))) (.bin .mul (.get (.var 1)) (.get (.ix (.var 2) (.sub (.rd (.var 5)) (.int 1)))))))
theorem f6_eq : f6 = ⟨1, 6, (.cons (.parN 1 2 (.call 3 (.mut 0 (.cons (.int 9) .nil)) .nil [0, 1]) (.lst (.cons (.int 1) .nil))) (.cons sRow (.cons (.asg 4 (.bin .add (.lst (.cons (.int 1) .nil)) eDif)) (.cons (.ite (.cmp .eq (.get (.ix (.var 4) (.neg (.int 1)))) (.int 0)) (.cons (.setx (.var 4) (.neg (.int 1)) (.neg (.int 1))) .nil) .nil) (.cons (.ret (.tup (.cons (.f1p .tuple (.var 4)) (.cons (.get (.var 1)) .nil)))) .nil)))))⟩ := rfl
theorem z6 : 6 ≤ sizeLine := by decide
theorem menu3_ev (c : Cfg) (sl : Sl) (rt : Rt) : ev c false sl eMenu3 rt = some (.ls (menu3.map ti), rt) := by
  simp [eMenu3, ev, evs, menu3, ti, d_cl, z6]
/-- a row of Horner's values behind the 1 -/
def IsNeg (xs : List Int) : Prop := xs.length ≤ 6 ∧ ∀ x ∈ xs, x ≤ 0 ∧ x.natAbs ≤ 40
theorem menu3_le {x : Int} (h : x ∈ menu3) : 0 ≤ x ∧ x.natAbs ≤ 40 := by
  have : ∀ x ∈ menu3, 0 ≤ x ∧ x.natAbs ≤ 40 := by decide
  exact this x h
theorem row_ev (k : Nat) (mm : Int) {t : T} {m : Nat} (h : IsDk t m) (hm : m < 2 ^ 29) : ∃ xs t' o, (o = none ∨ ∃ d, o = some (.v d)) ∧ xs ≠ [] ∧ IsNeg xs ∧ IsDk t' (m + 7) ∧
    Mi.ex ⟨sem I.glb G (k + 2), 1, I.glb⟩ sRow [some (.r 0), some (.v (.int mm)), some (.r 3), none, none, none] [some t, none, none, some (.ls ([1].map ti)), none, none, none] =
      some (.nx, [some (.r 0), some (.v (.int mm)), some (.r 3), o, none, none], [some t', none, none, some (.ls ((1 :: xs).map ti)), none, none, none]) := by
  obtain ⟨r, t1, r0, r1, h1, e1⟩ := draw_ev (k + 1) (s := 6) (by decide) (by decide) (np := 1) h (by omega) [some (.v (.int mm)), some (.r 3), none, none, none] [none, none, some (.ls ([1].map ti)), none, none, none]
  obtain ⟨sl', rt', e2, ⟨t', xs, o, ho, rfl, rfl, h', hl, hx⟩⟩ := forGo_ind (g := fun sl x => bind sl (.var 3) x) (b := fun sl rt => exs ⟨sem I.glb G (k + 2), 1, I.glb⟩ sNeg sl rt)
    (fun n sl rt => ∃ t' xs o, (o = none ∨ ∃ d, o = some (.v d)) ∧ sl = [some (.r 0), some (.v (.int mm)), some (.r 3), o, none, none] ∧ rt = [some t', none, none, some (.ls ((1 :: xs).map ti)), none, none, none] ∧ IsDk t' (m + 1 + n) ∧ xs.length = n ∧ ∀ x ∈ xs, x ≤ 0 ∧ x.natAbs ≤ 40)
    (1 + r).toNat (rngD 0 (1 + r).toNat) 0 [some (.r 0), some (.v (.int mm)), some (.r 3), none, none, none] [some t1, none, none, some (.ls ([1].map ti)), none, none, none]
    ⟨t1, [], none, .inl rfl, rfl, rfl, h1, rfl, fun _ h => by cases h⟩ (by rw [rng_len]; simp)
    (fun n x sl rt mx hn P => by
      obtain ⟨t', xs, o, ho, rfl, rfl, h', hl, hx⟩ := P
      obtain ⟨y, t2, my, h2, e2⟩ := pick_ev k menu3_ev (np := 1) h' (by omega) (by decide) (by decide) [some (.v (.int mm)), some (.r 3), some (.v x), none, none] [none, none, some (.ls ((1 :: xs).map ti)), none, none, none]
      refine ⟨[some (.r 0), some (.v (.int mm)), some (.r 3), some (.v x), none, none], rfl, [some (.r 0), some (.v (.int mm)), some (.r 3), some (.v x), none, none], [some t2, none, none, some (.ls ((1 :: xs).map ti ++ [ti (-y)])), none, none, none], ?_, t2, xs ++ [-y], some (.v x), .inr ⟨_, rfl⟩, rfl, ?_, h2, ?_, ?_⟩
      · have hlen : ((1 :: xs).map ti).length < sizeLine := by
          have : sizeLine = 16777216 := rfl
          simp
          omega
        change ev _ _ _ ePick3 _ = _ at e2
        generalize (1 :: xs).map ti = X at *
        simp [sNeg, exs, Mi.ex, ev, pt, e2, hlen, upP, P.isVar, ti]
      · simp
      · simp [hl]
      · intro z hz
        rcases List.mem_append.mp hz with hz | hz
        · exact hx z hz
        · rw [List.mem_singleton.mp hz]
          have := menu3_le my
          omega)
  refine ⟨xs, t', o, ho, ?_, ⟨by omega, hx⟩, IsDk.le h' (by omega), ?_⟩
  · intro e
    subst e
    simp at hl
    omega
  · exact ex_fr_of (evI_rng1_of (ev_bin_of (x := ti 1) (by simp [ev, ti]) e1 rfl) (inRng_of (by omega) (by omega))) e2
theorem dif_ev (c : Cfg) (hc : c.np = 1) (mm : Int) (hmm : 0 ≤ mm ∧ mm < 9) (o : Option S) (t : T) (xs : List Int) (hl : xs.length ≤ 10) (hl2 : 1 ≤ xs.length) (hx : ∀ x ∈ xs, x.natAbs ≤ 40) :
    ev c false [some (.r 0), some (.v (.int mm)), some (.r 3), o, none, none] eDif [some t, none, none, some (.ls (xs.map ti)), none, none, none] = some (.ls ((dif mm xs).map ti), [some t, none, none, some (.ls (xs.map ti)), none, none, none]) := by
  have el : lenD (T.ls (xs.map ti)).d = some (xs.length : Int) := by rw [d_ti]; show some ((xs.map D.int).length : Int) = _; rw [List.length_map]
  refine ev_lc_of (rt1 := [some t, none, none, some (.ls (xs.map ti)), none, none, none]) (xs := (List.range (xs.length - 1)).map fun (i : Nat) => .int (1 + (i : Int))) ?_ ?_
  · have e := evI_rng2_of (c := c) (sl := [some (.r 0), some (.v (.int mm)), some (.r 3), o, none, none]) (a := .int 1) (b := .x (.len (.var 2))) (rt := [some t, none, none, some (.ls (xs.map ti)), none, none, none]) (rt1 := [some t, none, none, some (.ls (xs.map ti)), none, none, none]) (rt2 := [some t, none, none, some (.ls (xs.map ti)), none, none, none]) (m := 1) (n := xs.length) (by simp [ev]) (by
      generalize xs.map ti = X at *
      simp [ev, x0, pt, el]) (inRng_of (by omega) (by omega)) (inRng_of (by omega) (by omega))
    rw [show ((xs.length : Int) - 1).toNat = xs.length - 1 by omega] at e
    exact e
  · rw [← dif_rng mm xs, List.map_map]
    refine lcGo_map (fun (i : Nat) => .int (1 + (i : Int))) (ti ∘ fun i => xs.getD (i + 1) 0 - mm * xs.getD i 0) _ [] (by simp; have : sizeLine = 16777216 := rfl; omega) ?_
    intro i mi
    have hi : i < xs.length - 1 := List.mem_range.mp mi
    refine ⟨[some (.r 0), some (.v (.int mm)), some (.r 3), o, none, some (.v (.int (1 + (i : Int))))], rfl, rfl, ?_⟩
    have g : ∀ j : Nat, j < xs.length → ixT (.ls (xs.map ti)) (.int (j : Int)) = some (.cl (.int (xs.getD j 0))) := fun j hj => by
      show atI (xs.map ti) (j : Int) = _
      unfold atI ixN
      rw [if_pos (by omega), if_pos (by rw [List.length_map]; omega)]
      simp [hj, ti]
    have g1 := g (i + 1) (by omega)
    have g2 := g i (by omega)
    rw [show ((i + 1 : Nat) : Int) = 1 + (i : Int) by omega] at g1
    have hm1 : mulOk mm (xs.getD i 0) = true := by
      have : xs.getD i 0 ∈ xs := by
        rw [List.getD_eq_getElem?_getD, List.getElem?_eq_getElem (show i < xs.length by omega)]
        exact List.getElem_mem _
      have := hx _ this
      exact mulOk_of (by omega) (by omega)
    have ci : (1 + (i : Int)) - 1 = (i : Int) := by omega
    generalize xs.map ti = X at *
    simp only [Function.comp]
    generalize xs.getD i 0 = u at *
    generalize xs.getD (i + 1) 0 = v at *
    simp [ev, pt, x0, D.scal, P.root, P.isVar, ci, g1, g2, d_cl, oB_sub, oB_mul hm1, ti]
end Mi.Law
namespace Mi.Law
open PySem L2
theorem par_ev (k : Nat) {t : T} {m : Nat} (h : IsDk t m) (hm : m < 2 ^ 29) : ∃ mm t', (0 ≤ mm ∧ mm < 9) ∧ IsDk t' (m + 1) ∧
    Mi.ex ⟨sem I.glb G (k + 2), 1, I.glb⟩ (.parN 1 2 (.call 3 (.mut 0 (.cons (.int 9) .nil)) .nil [0, 1]) (.lst (.cons (.int 1) .nil))) [some (.r 0), none, none, none, none, none] [some t, none, none, none, none, none, none] =
      some (.nx, [some (.r 0), some (.v (.int mm)), some (.r 3), none, none, none], [some t', none, none, some (.ls ([1].map ti)), none, none, none]) := by
  obtain ⟨r, t1, r0, r1, h1, e1⟩ := draw_ev (k + 1) (s := 9) (by decide) (by decide) (np := 1) h (by omega) [none, none, none, none, none] [none, none, none, none, none, none]
  refine ⟨r, t1, ⟨r0, r1⟩, h1, ?_⟩
  have z1 : 1 ≤ sizeLine := by decide
  generalize hE : E.call 3 (.mut 0 (.cons (.int 9) .nil)) .nil [0, 1] = E0 at *
  simp [Mi.ex, ev, evs, e1, store, usedBy, z1, ti]
theorem neg_le40 {xs : List Int} (h : IsNeg xs) : ∀ x ∈ 1 :: xs, x.natAbs ≤ 40 := by
  intro x hx
  rcases List.mem_cons.mp hx with rfl | hx
  · decide
  · exact (h.2 x hx).2
theorem planted_ok (k : Nat) {t : T} {m : Nat} (h : IsDk t m) (hm : m < 2 ^ 28) : ∃ xs mm t', IsRow xs ∧ (0 ≤ mm ∧ mm < 9) ∧ calm mm xs = true ∧ IsDk t' (m + 8) ∧ sem I.glb G (k + 3) 6 [t] = some (.cl (.tup [.tup (xs.map .int), .int mm]), [t']) := by
  rw [sem_at rfl]
  obtain ⟨mm, t1, hmm, h1, e1⟩ := par_ev k h (by omega)
  obtain ⟨xs, t2, o, ho, hne, hx, h2, e2⟩ := row_ev k mm h1 (by omega)
  have h40 := neg_le40 hx
  have e3 := dif_ev ⟨sem I.glb G (k + 2), 1, I.glb⟩ rfl mm hmm o t2 (1 :: xs) (by simp; have := hx.1; omega) (by simp) h40
  -- the polynomial: a last number w behind the others
  obtain ⟨us, w, eu, hw⟩ : ∃ us w, 1 :: dif mm (1 :: xs) = us ++ [w] ∧ us.length = xs.length ∧ (∀ x ∈ us, x.natAbs ≤ 400) ∧ w.natAbs ≤ 400 ∧ ∀ w', w' ≤ w → (w = 0 → w' ≤ 0) → calm mm (us ++ [w']) = true := by
    have hd := dif_le hmm (1 :: xs) h40
    rcases List.eq_nil_or_concat xs with rfl | ⟨ys, z, rfl⟩
    · exact absurd rfl hne
    · rw [List.concat_eq_append] at *
      rcases List.eq_nil_or_concat ys with rfl | ⟨zs, y, rfl⟩
      · refine ⟨[1], z - mm * 1, rfl, rfl, by simp, ?_, ?_⟩
        · exact hd _ (by show z - mm * 1 ∈ [z - mm * 1]; exact List.mem_singleton.mpr rfl)
        · intro w' h' h0
          have hz := (hx.2 z (by simp)).1
          exact calm_of0 hmm.1 (by omega)
      · rw [List.concat_eq_append] at *
        have es : 1 :: (zs ++ [y] ++ [z]) = (1 :: zs) ++ [y, z] := by simp
        rw [es] at hd ⊢
        rw [dif_snoc] at hd ⊢
        refine ⟨1 :: dif mm (1 :: zs ++ [y]), z - mm * y, rfl, ?_, ?_, hd _ (by simp), ?_⟩
        · simp [dif_len]
        · intro x hx'
          rcases List.mem_cons.mp hx' with rfl | hx'
          · decide
          · exact hd x (List.mem_append_left _ hx')
        · intro w' h' h0
          have hz := (hx.2 z (by simp)).1
          exact calm_of hmm.1 (fun x hx' => (hx.2 x (by simp at hx' ⊢; rcases hx' with h | h <;> simp [h])).1) (by rw [Int.mul_comm]; omega)
  obtain ⟨hul, hu, hwb, hc⟩ := hw
  have hxl := hx.1
  have hxl2 : 1 ≤ xs.length := by
    cases xs with
    | nil => exact absurd rfl hne
    | cons a r => simp
  have row : ∀ z : Int, z.natAbs ≤ 400 → IsRow (us ++ [z]) := fun z hz => by
    refine ⟨by simp; omega, by simp; omega, ?_⟩
    intro x hx'
    rcases List.mem_append.mp hx' with h | h
    · exact Nat.le_trans (hu x h) (by decide)
    · rw [List.mem_singleton.mp h]; exact Nat.le_trans hz (by decide)
  have a1 : opB .add (.lst [.int 1]) (.lst ((dif mm (1 :: xs)).map .int)) = some (.ls (us.map ti ++ [ti w])) := by
    show (if _ then _ else _) = _
    rw [if_pos (by simp [dif_len]; have : sizeLine = 16777216 := rfl; omega)]
    rw [show us.map ti ++ [ti w] = (us ++ [w]).map ti by simp, ← eu]
    simp [cls, ti]
  have done : ∀ z : Int, T.items (.ls (us.map ti ++ [ti z])) = some ((us ++ [z]).map .int) := fun z => by
    rw [show us.map ti ++ [ti z] = (us ++ [z]).map ti by simp]
    exact leaves_ti _
  have dd : ∀ z : Int, (T.ls (us.map ti ++ [ti z])).d = .lst ((us ++ [z]).map .int) := fun z => by
    rw [show us.map ti ++ [ti z] = (us ++ [z]).map ti by simp]
    exact d_ti _
  have ed := d_ti (dif mm (1 :: xs))
  have z1 : 1 ≤ sizeLine := by decide
  have z2 : 2 ≤ sizeLine := by decide
  rw [f6_eq]
  rw [show [1].map ti = [ti 1] from rfl] at e1 e2
  have g1 := ixT_last (us.map ti) (ti w)
  have s3 : Mi.ex ⟨sem I.glb G (k + 2), 1, I.glb⟩ (.asg 4 (.bin .add (.lst (.cons (.int 1) .nil)) eDif)) [some (.r 0), some (.v (.int mm)), some (.r 3), o, none, none] [some t2, none, none, some (.ls ((1 :: xs).map ti)), none, none, none] =
      some (.nx, [some (.r 0), some (.v (.int mm)), some (.r 3), o, some (.r 5), none], [some t2, none, none, some (.ls ((1 :: xs).map ti)), none, some (.ls (us.map ti ++ [ti w])), none]) := by
    refine ex_asg_of (ev_bin_of (x := .ls [ti 1]) (by simp [ev, evs, z1, ti]) e3 (by rw [ed]; exact a1)) ?_
    rcases ho with rfl | ⟨d, rfl⟩ <;> rfl
  have s5 : ∀ z : Int, Mi.ex ⟨sem I.glb G (k + 2), 1, I.glb⟩ (.ret (.tup (.cons (.f1p .tuple (.var 4)) (.cons (.get (.var 1)) .nil)))) [some (.r 0), some (.v (.int mm)), some (.r 3), o, some (.r 5), none] [some t2, none, none, some (.ls ((1 :: xs).map ti)), none, some (.ls (us.map ti ++ [ti z])), none] =
      some (.rt (.cl (.tup [.tup ((us ++ [z]).map .int), .int mm])), [some (.r 0), some (.v (.int mm)), some (.r 3), o, some (.r 5), none], [some t2, none, none, some (.ls ((1 :: xs).map ti)), none, some (.ls (us.map ti ++ [ti z])), none]) := fun z => by
    have dz := done z
    have ddz := dd z
    have g2 : f1D .tuple (.lst ((us ++ [z]).map .int)) = some (.cl (.tup ((us ++ [z]).map .int))) := rfl
    generalize (us ++ [z]).map D.int = Z at *
    generalize us.map ti ++ [ti z] = Z2 at *
    generalize (1 :: xs).map ti = X2 at *
    simp [Mi.ex, ev, evs, pt, x0, dz, ddz, g2, d_cl, z2, T.ds]
  by_cases h0 : w = 0
  · refine ⟨us ++ [-1], mm, t2, row (-1) (by decide), hmm, hc (-1) (by omega) (by omega), IsDk.le h2 (by omega), ?_⟩
    have p1 := put_last (us.map ti) (ti w) (ti (-1))
    have eq0 : eqD (.int w) (.int 0) = some true := by rw [eqD_int, decide_eq_true h0]
    refine runFn_rt rfl (exs_nx e1 (exs_nx e2 (exs_nx s3 (exs_nx (ex_ite_of (v := true) (rt1 := [some t2, none, none, some (.ls ((1 :: xs).map ti)), none, some (.ls (us.map ti ++ [ti w])), none]) ?_ (o := some (.nx, [some (.r 0), some (.v (.int mm)), some (.r 3), o, some (.r 5), none], [some t2, none, none, some (.ls ((1 :: xs).map ti)), none, some (.ls (us.map ti ++ [ti (-1)])), none])) ?_) (exs_rt (s5 (-1))))))) rfl
    · generalize us.map ti ++ [ti w] = Y2 at *
      generalize (1 :: xs).map ti = X2 at *
      unfold ti at g1
      simp [ev, pt, x0, d_cl, oC_eq, g1, eq0]
    · rw [if_pos rfl]
      generalize us.map ti ++ [ti w] = Y2 at *
      generalize us.map ti ++ [ti (-1)] = Z2 at *
      generalize (1 :: xs).map ti = X2 at *
      unfold ti at p1
      simp [exs, Mi.ex, ev, pt, x0, p1, upP]
  · refine ⟨us ++ [w], mm, t2, row w hwb, hmm, hc w (by omega) (by omega), IsDk.le h2 (by omega), ?_⟩
    have eq0 : eqD (.int w) (.int 0) = some false := by rw [eqD_int, decide_eq_false h0]
    refine runFn_rt rfl (exs_nx e1 (exs_nx e2 (exs_nx s3 (exs_nx (ex_ite_of (v := false) (rt1 := [some t2, none, none, some (.ls ((1 :: xs).map ti)), none, some (.ls (us.map ti ++ [ti w])), none]) ?_ (o := some (.nx, [some (.r 0), some (.v (.int mm)), some (.r 3), o, some (.r 5), none], [some t2, none, none, some (.ls ((1 :: xs).map ti)), none, some (.ls (us.map ti ++ [ti w])), none])) ?_) (exs_rt (s5 w)))))) rfl
    · generalize us.map ti ++ [ti w] = Y2 at *
      generalize (1 :: xs).map ti = X2 at *
      unfold ti at g1
      simp [ev, pt, x0, d_cl, oC_eq, g1, eq0]
    · rw [if_neg (by decide)]
      simp [exs]
end Mi.Law
namespace Mi.Law
open PySem L2
theorem horOk_of {m : Int} (hm : m.natAbs ≤ 1000000) : ∀ (xs acc : List Int), (∀ x ∈ xs, x.natAbs ≤ 1000000) → acc.length + xs.length ≤ 100 → (∀ y, acc.getLast? = some y → y.natAbs < 2 ^ (30 * acc.length)) → horOk m acc xs
  | [], acc, _, hl, _ => by show acc.length ≤ 100; simpa using hl
  | x :: xs, acc, hx, hl, hy => by
    have hxx := hx x List.mem_cons_self
    rw [List.length_cons] at hl
    have hpos : (2 : Nat) ^ 30 ≤ 2 ^ (30 * (acc.length + 1)) := Nat.pow_le_pow_right (by decide) (by omega)
    show (match acc.getLast? with | none => True | some y => mulOk y m = true) ∧ horOk m (acc ++ [match acc.getLast? with | none => x | some y => y * m + x]) xs
    have fin : ∀ z : Int, z.natAbs < 2 ^ (30 * (acc.length + 1)) → horOk m (acc ++ [z]) xs := fun z hz => by
      refine horOk_of hm xs (acc ++ [z]) (fun x m => hx x (List.mem_cons_of_mem _ m)) (by simp; omega) ?_
      intro y e
      rw [List.getLast?_append] at e
      simp at e
      subst e
      simpa using hz
    cases e : acc.getLast? with
    | none => exact ⟨trivial, fin x (by omega)⟩
    | some y =>
      have h1 := hy y e
      have hne : acc ≠ [] := by intro e2; subst e2; cases e
      have hn : 1 ≤ acc.length := by cases acc with | nil => exact absurd rfl hne | cons a r => simp
      refine ⟨?_, fin _ ?_⟩
      · unfold mulOk
        have a1 := log2_of h1 (by omega)
        have a2 := log2_of (n := m.natAbs) (k := 20) (by omega) (by decide)
        exact decide_eq_true (by omega)
      · have e1 : (y * m).natAbs = y.natAbs * m.natAbs := Int.natAbs_mul y m
        have e2 : y.natAbs * m.natAbs ≤ 2 ^ (30 * acc.length) * 1000000 := Nat.mul_le_mul (Nat.le_of_lt h1) hm
        have e3 : (2 : Nat) ^ (30 * (acc.length + 1)) = 2 ^ (30 * acc.length) * 1073741824 := by
          rw [show 30 * (acc.length + 1) = 30 * acc.length + 30 by omega, Nat.pow_add]
        have e4 : 0 < (2 : Nat) ^ (30 * acc.length) := Nat.pow_pos (by decide)
        have e5 := Int.natAbs_add_le (y * m) x
        show (y * m + x).natAbs < _
        omega
theorem horOk_row {m : Int} {xs : List Int} (hm : m.natAbs ≤ 1000000) (h : IsRow xs) : horOk m [] xs := horOk_of hm xs [] h.2.2 (by have := h.2.1; simp; omega) (fun y e => by cases e)
theorem log_row {xs : List Int} (h : IsRow xs) : ∀ x ∈ xs, x.natAbs.log2 < 1920 := fun x m => by
  have h1 := h.2.2 x m
  have := log2_of (n := x.natAbs) (k := 20) (by omega) (by decide)
  omega
/-- a comprehension that keeps what is_told denies: none -/
theorem none_go (k : Nat) {j : Nat} {xs : List Int} (hr : IsRow xs) {zs : List Int} (hz : ∀ z ∈ zs, z.natAbs ≤ 1000000) {sl : Sl} {rt : Rt} {np : Nat} {e : Sl → Rt → Option (T × Rt)} (hj : sl[j]? = some (some (.v (.tup (xs.map .int))))) (h9 : sl.length = 9) (hj8 : j < 8) :
    lcGo (fun x => bind (wip sl [8]) (.var 8) x) (fun sl rt => tstOf (ev ⟨sem I.glb G (k + 3), np, I.glb⟩ false sl (.not (.call 8 (.cons (.get (.var j)) (.cons (.get (.var 8)) .nil)) .nil [0, 1])) rt)) e (zs.map .int) [] rt = some ([], rt) := by
  refine lcGo_none _ _ ?_
  intro x mx
  obtain ⟨z, mz, rfl⟩ := List.mem_map.mp mx
  refine ⟨sl.set 8 (some (.v (.int z))), ?_, ?_⟩
  · simp [bind, wip, h9]
  · have e := told_ok k z xs (horOk_row (hz z mz) hr) hr.1 (log_row hr)
    have e1 : (sl.set 8 (some (S.v (.int z))))[j]? = some (some (.v (.tup (xs.map .int)))) := by rw [List.getElem?_set_ne (by omega)]; exact hj
    have e2 : (sl.set 8 (some (S.v (.int z))))[8]? = some (some (.v (.int z))) := by rw [List.getElem?_set_self (by omega)]
    generalize sl.set 8 (some (S.v (.int z))) = sl2 at *
    generalize xs.map D.int = X at *
    unfold ti at e
    simp [ev, evA, evs, pt, e1, e2, d_cl, argsOf, perm, mutsOf, clr, backOf, e, tstOf]
/-- the row of numbers that are asked -/
def some7 (mm fa r : Int) : List Int := (List.range 15).map (fun (i : Nat) => -3 + (i : Int)) ++ [mm, -fa, (-fa).fdiv 2, 1000000, -1000000, r]
theorem some7_le {mm fa r : Int} (h1 : mm.natAbs ≤ 9) (h2 : fa.natAbs ≤ 1000000) (h3 : 0 ≤ r ∧ r < 1000) : ∀ z ∈ some7 mm fa r, z.natAbs ≤ 1000000 := by
  intro z hz
  rcases List.mem_append.mp hz with hz | hz
  · obtain ⟨i, hi, rfl⟩ := List.mem_map.mp hz
    have := List.mem_range.mp hi
    omega
  · have hd : ((-fa).fdiv 2).natAbs ≤ 1000000 := by
      rw [Int.fdiv_eq_ediv_of_nonneg _ (by decide)]
      omega
    simp at hz
    rcases hz with rfl | rfl | rfl | rfl | rfl | rfl
    · omega
    · omega
    · exact hd
    · decide
    · decide
    · omega
def sl0 (o2 o4 o5 o6 o7 : Option S) : Sl := [some (.r 0), some (.r 2), o2, none, o4, o5, o6, o7, none]
def rt0 (a : T) (t : T) (o : Option T) : Rt := [some a, none, some t, none, none, none, none, none, o, none]
def slF (i p m f : D) : Sl := sl0 (some (.v i)) (some (.v p)) (some (.v m)) (some (.v f)) (some (.r 8))
theorem t1_ev (k : Nat) {t : T} {m : Nat} (h : IsDk t m) (hm : m < 2 ^ 28) (o2 o4 o5 o6 o7 : Option S) (a : T) (o : Option T) : ∃ xs mm t', IsRow xs ∧ (0 ≤ mm ∧ mm < 9) ∧ calm mm xs = true ∧ IsDk t' (m + 8) ∧
    Mi.ex ⟨sem I.glb G (k + 3), 1, I.glb⟩ (.asgT (.tup [(.var 4), (.var 5)]) (.call 6 (.mut 1 .nil) .nil [0])) (sl0 o2 o4 o5 o6 o7) (rt0 a t o) =
      some (.nx, sl0 o2 (some (.v (.tup (xs.map .int)))) (some (.v (.int mm))) o6 o7, rt0 a t' o) := by
  obtain ⟨xs, mm, t', h1, h2, h3, h4, e⟩ := planted_ok k h hm
  refine ⟨xs, mm, t', h1, h2, h3, h4, ?_⟩
  generalize xs.map D.int = X at *
  simp [Mi.ex, ev, evA, sl0, rt0, argsOf, perm, mutsOf, clr, backOf, e, d_cl, bind, binds]
theorem t2_ev (k : Nat) {t : T} {m : Nat} (h : IsDk t m) (hm : m < 2 ^ 28) (o2 o4 o5 o6 o7 : Option S) (a : T) (o : Option T) : ∃ xs t', IsRow xs ∧ IsDk t' (m + 8) ∧
    Mi.ex ⟨sem I.glb G (k + 3), 1, I.glb⟩ (.asg 6 (.call 7 (.mut 1 .nil) .nil [0])) (sl0 o2 o4 o5 o6 o7) (rt0 a t o) =
      some (.nx, sl0 o2 o4 o5 (some (.v (.tup (xs.map .int)))) o7, rt0 a t' o) := by
  obtain ⟨xs, t', h1, h4, e⟩ := any_ok k h (by omega)
  refine ⟨xs, t', h1, h4, ?_⟩
  generalize xs.map D.int = X at *
  simp [Mi.ex, ev, evA, sl0, rt0, argsOf, perm, mutsOf, clr, backOf, e, d_cl, store]
def eSome : E := (.bin .add (.lrg2 false (.neg (.int 3)) (.int 12)) (.lst (.cons (.get (.var 5)) (.cons (.neg (.get (.ix (.var 6) (.int 1)))) (.cons (.bin .fdiv (.neg (.get (.ix (.var 6) (.int 1)))) (.int 2)) (.cons (.bin .pow (.int 10) (.int 6)) (.cons (.neg (.bin .pow (.int 10) (.int 6))) (.cons (.call 3 (.mut 1 (.cons (.int 1000) .nil)) .nil [0, 1]) .nil))))))))
theorem t3_ev (k : Nat) {t : T} {m : Nat} (h : IsDk t m) (hm : m < 2 ^ 28) (i p : D) (mm fa fb : Int) (fr : List Int) (o7 : Option S) (a : T) (o : Option T) : ∃ r t', (0 ≤ r ∧ r < 1000) ∧ IsDk t' (m + 1) ∧
    Mi.ex ⟨sem I.glb G (k + 3), 1, I.glb⟩ (.asg 7 eSome) (sl0 (some (.v i)) (some (.v p)) (some (.v (.int mm))) (some (.v (.tup ((fb :: fa :: fr).map .int)))) o7) (rt0 a t o) =
      some (.nx, slF i p (.int mm) (.tup ((fb :: fa :: fr).map .int)), rt0 a t' (some (.ls ((some7 mm fa r).map ti)))) := by
  obtain ⟨r, t', h1, h2, h3, e⟩ := draw_s (k + 2) h (by omega) (s := 1000) (by decide) (by decide)
  refine ⟨r, t', ⟨h1, h2⟩, h3, ?_⟩
  have g : atI (D.int fb :: D.int fa :: fr.map D.int) 1 = some (.int fa) := by
    unfold atI ixN
    rw [if_pos (by decide), if_pos (by simp; omega)]
    rfl
  have z6 : 6 ≤ sizeLine := by decide
  have dv : opB .fdiv (.int (-fa)) (.int 2) = some (.cl (.int ((-fa).fdiv 2))) := oB_div (by decide) (by decide)
  have e1 : rgOk (-3) 12 = true := by decide
  have e2 : opB .add (.lst (rngD (-3) 15)) (.lst [.int mm, .int (-fa), .int ((-fa).fdiv 2), .int 1000000, .int (-1000000), .int r]) = some (.ls ((some7 mm fa r).map ti)) := by
    rw [oB_cat (by rw [rng_len]; show 15 + 6 ≤ sizeLine; decide)]
    unfold some7 rngD cls ti
    simp
  have d6 : ∀ a b c d e f : D, (T.ls [.cl a, .cl b, .cl c, .cl d, .cl e, .cl f]).d = .lst [a, b, c, d, e, f] := fun _ _ _ _ _ _ => rfl
  have dr : (T.ls (cls (rngD (-3) 15))).d = .lst (rngD (-3) 15) := d_ls _
  have st : ∀ (L : List T) (t : T), store ⟨sem I.glb G (k + 3), 1, I.glb⟩ 7 (.ls L) (sl0 (some (.v i)) (some (.v p)) (some (.v (.int mm))) (some (.v (.tup ((fb :: fa :: fr).map .int)))) o7) (rt0 a t o) = some (slF i p (.int mm) (.tup ((fb :: fa :: fr).map .int)), rt0 a t (some (.ls L))) := fun L t => rfl
  refine ex_asg_of ?_ (st _ _)
  unfold eSome
  refine ev_bin_of (rt1 := rt0 a t o) (x := .ls (cls (rngD (-3) 15))) ?_ (y := .ls [ti mm, ti (-fa), ti ((-fa).fdiv 2), ti 1000000, ti (-1000000), ti r]) ?_ (by rw [dr]; unfold ti; rw [d6]; exact e2)
  · simp [ev, e1]
  · simp [ev, evs, evA, sl0, rt0, pt, x0, ixT, ixD, g, dv, ten6, argsOf, perm, mutsOf, clr, backOf, e, d_cl, z6, ti]
end Mi.Law
namespace Mi.Law
open PySem L2
def sT1 : St := (.asgT (.tup [(.var 4), (.var 5)]) (.call 6 (.mut 1 .nil) .nil [0]))
def sT2 : St := (.asg 6 (.call 7 (.mut 1 .nil) .nil [0]))
def eLc (j : Nat) : E := (.lc [8] (.var 8) (.seq (.get (.var 7))) (.not (.call 8 (.cons (.get (.var j)) (.cons (.get (.var 8)) .nil)) .nil [0, 1])) (.get (.var 8)))
def sT4 : St := (.ite (.or (.cmp .notist (.call 1 (.cons (.get (.var 4)) (.cons (.get (.var 5)) .nil)) .nil [0, 1]) (.bl true)) (.cmp .ne (eLc 4) (.lst .nil))) (.cons (.ret (.bl false)) .nil) .nil)
def sT5 : St := (.ite (.cmp .ne (eLc 6) (.lst .nil)) (.cons (.ret (.bl false)) .nil) .nil)
def bT : Ss := (.cons sT1 (.cons sT2 (.cons (.asg 7 eSome) (.cons sT4 (.cons sT5 .nil)))))
def eT1 : E := (.lst (.cons (.call 1 (.cons (.tup (.cons (.int 1) (.cons (.neg (.int 1)) .nil))) (.cons (.int 0) .nil)) .nil [0, 1]) (.cons (.call 1 (.cons (.tup (.cons (.int 1) (.cons (.neg (.int 3)) (.cons (.int 2) .nil)))) (.cons (.int 1) .nil)) .nil [0, 1]) (.cons (.call 1 (.cons (.tup (.cons (.int 1) (.cons (.neg (.int 3)) (.cons (.int 2) .nil)))) (.cons (.int 0) .nil)) .nil [0, 1]) (.cons (.call 1 (.cons (.tup (.cons (.int 1) (.cons (.neg (.int 1)) (.cons (.neg (.int 1)) .nil)))) (.cons (.int 0) .nil)) .nil [0, 1]) .nil)))))
def eT2 : E := (.lst (.cons (.call 1 (.cons (.tup (.cons (.int 1) (.cons (.int 1) (.cons (.neg (.int 2)) .nil)))) (.cons (.int 0) .nil)) .nil [0, 1]) (.cons (.call 1 (.cons (.tup (.cons (.int 1) (.cons (.int 1) (.cons (.neg (.int 2)) .nil)))) (.cons (.neg (.int 1)) .nil)) .nil [0, 1]) .nil)))
def eT3 : E := (.lst (.cons (.bl true) (.cons (.bl true) (.cons (.bl false) (.cons (.bl true) (.cons (.bl false) (.cons (.bl false) .nil)))))))
theorem f9_eq : f9 = ⟨1, 9, (.cons (.asg 1 (.call 2 (.cons (.get (.var 0)) .nil) .nil [0])) (.cons (.fr (.var 2) (.rng1 (.int 6)) bT) (.cons (.asg 3 eT1) (.cons (.ret (.cmp .eq (.bin .add (.get (.var 3)) eT2) eT3)) .nil))))⟩ := rfl
theorem or_false_of {c : Cfg} {mv : Bool} {sl : Sl} {a b : E} {rt rt1 : Rt} {o : Option (T × Rt)} (h : ev c false sl a rt = some (.cl (.bl false), rt1)) (h2 : ev c false sl b rt1 = o) : ev c mv sl (.or a b) rt = o := by
  unfold ev
  rw [h]
  exact h2
theorem cmp_of {c : Cfg} {mv : Bool} {sl : Sl} {op : COp} {a b : E} {rt rt1 rt2 : Rt} {x y : T} {t : Bool} (h1 : ev c false sl a rt = some (x, rt1)) (h2 : ev c false sl b rt1 = some (y, rt2)) (h3 : opC op x.d y.d = some t) : ev c mv sl (.cmp op a b) rt = some (.cl (.bl t), rt2) := by
  unfold ev
  rw [h1]
  simp only
  rw [h2]
  simp only
  rw [h3]
  rfl
theorem ne_nil : opC .ne (T.ls []).d (T.ls []).d = some false := by
  rw [oC_ne]
  show (eqD (.lst []) (.lst [])).map _ = _
  rw [show eqD (.lst []) (.lst []) = some true from eqD_ints [] []]
  rfl
theorem lst_nil (c : Cfg) (mv : Bool) (sl : Sl) (rt : Rt) : ev c mv sl (.lst .nil) rt = some (.ls [], rt) := by
  simp [ev, evs]
theorem turn_ev (k : Nat) {t : T} {m : Nat} (h : IsDk t m) (hm : m < 2 ^ 27) (x : D) (o4 o5 o6 o7 : Option S) (a : T) (o : Option T) : ∃ p mm f t' L, IsDk t' (m + 17) ∧
    exs ⟨sem I.glb G (k + 3), 1, I.glb⟩ bT (sl0 (some (.v x)) o4 o5 o6 o7) (rt0 a t o) = some (.nx, slF x p mm f, rt0 a t' (some L)) := by
  obtain ⟨xs, mm, t1, x1, x2, x3, d1, e1⟩ := t1_ev k h (by omega) (some (.v x)) o4 o5 o6 o7 a o
  obtain ⟨fs, t2, y1, d2, e2⟩ := t2_ev k d1 (by omega) (some (.v x)) (some (.v (.tup (xs.map .int)))) (some (.v (.int mm))) o6 o7 a o
  obtain ⟨fb, fa, fr, rfl⟩ : ∃ fb fa fr, fs = fb :: fa :: fr := by
    match fs, y1.1 with
    | fb :: fa :: fr, _ => exact ⟨fb, fa, fr, rfl⟩
  obtain ⟨r, t3, hr, d3, e3⟩ := t3_ev k d2 (by omega) x (.tup (xs.map .int)) mm fa fb fr o7 a o
  have hz := some7_le (mm := mm) (fa := fa) (r := r) (by omega) (y1.2.2 fa (by simp)) hr
  have cl8 : ∀ (i p mm f : D) (t : T) (L : List Int), close (rt0 a t (some (.ls (L.map ti)))) 8 = rt0 a t (some (.cl (.lst (L.map .int)))) := fun i p mm f t L => by
    have := d_ti L
    unfold close rt0
    generalize L.map ti = Y at *
    simp [this]
  -- the first comprehension: the list is closed at its walk
  have n6 : ev ⟨sem I.glb G (k + 3), 1, I.glb⟩ false (slF x (.tup (xs.map .int)) (.int mm) (.tup ((fb :: fa :: fr).map .int))) (eLc 6) (rt0 a t3 (some (.cl (.lst ((some7 mm fa r).map .int))))) = some (.ls [], rt0 a t3 (some (.cl (.lst ((some7 mm fa r).map .int))))) := by
    refine ev_lc_of (rt1 := rt0 a t3 (some (.cl (.lst ((some7 mm fa r).map .int))))) (xs := (some7 mm fa r).map .int) ?_ (none_go k y1 hz rfl rfl (by decide))
    have gx : pt (slF x (.tup (xs.map .int)) (.int mm) (.tup ((fb :: fa :: fr).map .int))) (rt0 a t3 (some (.cl (.lst ((some7 mm fa r).map .int))))) (.var 7) = some (.cl (.lst ((some7 mm fa r).map .int))) := by simp [pt, slF, sl0, rt0]
    generalize slF x (.tup (xs.map .int)) (.int mm) (.tup ((fb :: fa :: fr).map .int)) = SL at *
    simp [evI, ev, gx, P.root, P.isVar, D.items, d_cl]
  have n4' : ev ⟨sem I.glb G (k + 3), 1, I.glb⟩ false (slF x (.tup (xs.map .int)) (.int mm) (.tup ((fb :: fa :: fr).map .int))) (eLc 4) (rt0 a t3 (some (.ls ((some7 mm fa r).map ti)))) = some (.ls [], rt0 a t3 (some (.cl (.lst ((some7 mm fa r).map .int))))) := by
    refine ev_lc_of (rt1 := rt0 a t3 (some (.cl (.lst ((some7 mm fa r).map .int))))) (xs := (some7 mm fa r).map .int) ?_ ?_
    · have c8 := cl8 x x x x t3 (some7 mm fa r)
      have dl := d_ti (some7 mm fa r)
      have gx : pt (slF x (.tup (xs.map .int)) (.int mm) (.tup ((fb :: fa :: fr).map .int))) (rt0 a t3 (some (.ls ((some7 mm fa r).map ti)))) (.var 7) = some (.ls ((some7 mm fa r).map ti)) := by simp [pt, slF, sl0, rt0]
      have gs : (slF x (.tup (xs.map .int)) (.int mm) (.tup ((fb :: fa :: fr).map .int)))[7]? = some (some (.r 8)) := rfl
      generalize slF x (.tup (xs.map .int)) (.int mm) (.tup ((fb :: fa :: fr).map .int)) = SL at *
      simp [evI, ev, gx, gs, P.root, P.isVar, c8, dl, D.items, d_cl]
    · exact none_go k x1 hz rfl rfl (by decide)
  have c1 := calm_ok (k + 1) mm xs (horOk_row (by omega) x1) x1.1
  rw [x3] at c1
  refine ⟨.tup (xs.map .int), .int mm, .tup ((fb :: fa :: fr).map .int), t3, .cl (.lst ((some7 mm fa r).map .int)), IsDk.le d3 (by omega), ?_⟩
  refine exs_nx e1 (exs_nx e2 (exs_nx e3 (exs_nx (ex_ite_of (v := false) (or_false_of ?_ (cmp_of n4' (lst_nil _ _ _ _) ne_nil)) rfl) (exs_nx (ex_ite_of (v := false) (cmp_of n6 (lst_nil _ _ _ _) ne_nil) rfl) rfl))))
  generalize xs.map D.int = X at *
  unfold ti at c1
  simp [ev, evA, evs, slF, sl0, pt, d_cl, argsOf, perm, mutsOf, clr, backOf, c1, opC]
theorem hand_ev (k : Nat) (sl : Sl) (rt : Rt) (xs : List Int) (m : Int) (e e2 : E) (he : ∀ c, ev c false sl e rt = some (.cl (.tup (xs.map .int)), rt)) (he2 : ∀ c, ev c false sl e2 rt = some (ti m, rt)) (hr : IsRow xs) (hm : m.natAbs ≤ 1000000) :
    ev ⟨sem I.glb G (k + 3), 1, I.glb⟩ false sl (.call 1 (.cons e (.cons e2 .nil)) .nil [0, 1]) rt = some (.cl (.bl (calm m xs)), rt) := by
  have c1 := calm_ok (k + 1) m xs (horOk_row hm hr) hr.1
  generalize xs.map D.int = X at *
  unfold ti at *
  simp [ev, evA, evs, he, he2, d_cl, argsOf, perm, mutsOf, clr, backOf, c1]
theorem row_of {xs : List Int} (h : (decide (2 ≤ xs.length) && decide (xs.length ≤ 7) && xs.all fun x => decide (x.natAbs ≤ 1000000)) = true) : IsRow xs := by
  simp at h
  exact ⟨h.1.1, h.1.2, h.2⟩
theorem lst_of {c : Cfg} {sl : Sl} {es : Es} {rt rt1 : Rt} {ts : List T} (h : evs c false sl es rt = some (ts, rt1)) (hl : ts.length ≤ sizeLine) : ev c false sl (.lst es) rt = some (.ls ts, rt1) := by
  unfold ev
  rw [h]
  simp only
  rw [if_pos hl]
theorem evs_of {c : Cfg} {mv : Bool} {sl : Sl} {e : E} {r : Es} {rt rt1 rt2 : Rt} {t : T} {ts : List T} (h : ev c mv sl e rt = some (t, rt1)) (h2 : evs c mv sl r rt1 = some (ts, rt2)) : evs c mv sl (.cons e r) rt = some (t :: ts, rt2) := by
  unfold evs
  rw [h]
  simp only
  rw [h2]
theorem evs_nil {c : Cfg} {mv : Bool} {sl : Sl} {rt : Rt} : evs c mv sl .nil rt = some ([], rt) := by
  unfold evs
  rfl
theorem z3' : 3 ≤ sizeLine := by decide
theorem h1_ev (k : Nat) (sl : Sl) (rt : Rt) : ev ⟨sem I.glb G (k + 3), 1, I.glb⟩ false sl eT1 rt = some (.ls [.cl (.bl true), .cl (.bl true), .cl (.bl false), .cl (.bl true)], rt) := by
  refine lst_of (evs_of (hand_ev k sl rt [1, -1] 0 _ _ (fun c => ?_) (fun c => ?_) (row_of (by decide)) (by decide)) (evs_of (hand_ev k sl rt [1, -3, 2] 1 _ _ (fun c => ?_) (fun c => ?_) (row_of (by decide)) (by decide)) (evs_of (hand_ev k sl rt [1, -3, 2] 0 _ _ (fun c => ?_) (fun c => ?_) (row_of (by decide)) (by decide)) (evs_of (hand_ev k sl rt [1, -1, -1] 0 _ _ (fun c => ?_) (fun c => ?_) (row_of (by decide)) (by decide)) evs_nil)))) (by decide)
  all_goals simp [ev, evs, d_cl, T.ds, T.d, z2, z3, ti]
theorem h2_ev (k : Nat) (sl : Sl) (rt : Rt) : ev ⟨sem I.glb G (k + 3), 1, I.glb⟩ false sl eT2 rt = some (.ls [.cl (.bl false), .cl (.bl false)], rt) := by
  refine lst_of (evs_of (hand_ev k sl rt [1, 1, -2] 0 _ _ (fun c => ?_) (fun c => ?_) (row_of (by decide)) (by decide)) (evs_of (hand_ev k sl rt [1, 1, -2] (-1) _ _ (fun c => ?_) (fun c => ?_) (row_of (by decide)) (by decide)) evs_nil)) (by decide)
  all_goals simp [ev, evs, d_cl, T.ds, T.d, z2, z3, ti]
theorem pure (ns : List Int) (hl : ns.length ≤ 63) : ∃ ts, sem I.glb G (11 + 1) 9 [.cl (.scr ns)] = some (.cl (.bl true), ts) := by
  obtain ⟨t, d0, e0⟩ := deck_ok I.glb (sem I.glb G 10) ns
  have e0' : sem I.glb G 11 2 [.cl (.scr ns)] = some (t, [.cl (.scr ns)]) := by rw [sem_at (k := 10) rfl]; exact e0
  rw [sem_at rfl, f9_eq]
  have tree : ∀ {t : T} {m : Nat}, IsDk t m → ∃ L, t = .ls L := fun h => by
    obtain ⟨l, b, n, rfl, _⟩ := h
    exact ⟨_, rfl⟩
  have s1 : Mi.ex ⟨sem I.glb G 11, 1, I.glb⟩ (.asg 1 (.call 2 (.cons (.get (.var 0)) .nil) .nil [0])) (startSl 1 9) (startRt 9 [.cl (.scr ns)]) = some (.nx, sl0 none none none none none, rt0 (.cl (.scr ns)) t none) := by
    obtain ⟨L, rfl⟩ := tree d0
    simp [Mi.ex, ev, evA, evs, startSl, startRt, List.range_succ, pt, d_cl, argsOf, perm, mutsOf, clr, backOf, e0', store, usedBy, sl0, rt0]
  obtain ⟨sl', rt', s2, ⟨t', o, d1, hs, rfl⟩⟩ := forGo_ind (g := fun sl x => bind sl (.var 2) x) (b := fun sl rt => exs ⟨sem I.glb G 11, 1, I.glb⟩ bT sl rt)
    (fun n sl rt => ∃ t' o, IsDk t' (17 * n) ∧ ((n = 0 ∧ sl = sl0 none none none none none) ∨ ∃ x p mm f, sl = slF x p mm f) ∧ rt = rt0 (.cl (.scr ns)) t' o) 6 (rngD 0 6) 0 (sl0 none none none none none) (rt0 (.cl (.scr ns)) t none)
    ⟨t, _, d0, .inl ⟨rfl, rfl⟩, rfl⟩ (by rw [rng_len])
    (fun n x sl rt mx hn P => by
      obtain ⟨t', o, d1, hs, rfl⟩ := P
      rcases hs with ⟨h0, rfl⟩ | ⟨x', p', m', f', rfl⟩
      · obtain ⟨p, mm, f, t2, L, d2, e⟩ := turn_ev 8 d1 (by omega) x none none none none (.cl (.scr ns)) o
        exact ⟨sl0 (some (.v x)) none none none none, rfl, _, _, e, t2, _, IsDk.le d2 (by omega), .inr ⟨_, _, _, _, rfl⟩, rfl⟩
      · obtain ⟨p, mm, f, t2, L, d2, e⟩ := turn_ev 8 d1 (by omega) x (some (.v p')) (some (.v m')) (some (.v f')) (some (.r 8)) (.cl (.scr ns)) o
        exact ⟨sl0 (some (.v x)) (some (.v p')) (some (.v m')) (some (.v f')) (some (.r 8)), rfl, _, _, e, t2, _, IsDk.le d2 (by omega), .inr ⟨_, _, _, _, rfl⟩, rfl⟩)
  obtain ⟨x, p, mm, f, rfl⟩ : ∃ x p mm f, sl' = slF x p mm f := by
    rcases hs with ⟨h0, _⟩ | h
    · cases h0
    · exact h
  have s2' := ex_fr_of (c := ⟨sem I.glb G 11, 1, I.glb⟩) (it := .rng1 (.int 6)) (evI_rng1_of (rt := rt0 (.cl (.scr ns)) t none) (n := 6) (rt1 := rt0 (.cl (.scr ns)) t none) (by simp [ev]) (inRng_of (by decide) (by decide))) s2
  have s3 : Mi.ex ⟨sem I.glb G 11, 1, I.glb⟩ (.asg 3 eT1) (slF x p mm f) (rt0 (.cl (.scr ns)) t' o) = some (.nx, (slF x p mm f).set 3 (some (.r 4)), (rt0 (.cl (.scr ns)) t' o).set 4 (some (.ls [.cl (.bl true), .cl (.bl true), .cl (.bl false), .cl (.bl true)]))) := ex_asg_of (h1_ev 8 _ _) rfl
  have e3 : ∀ rt, ev ⟨sem I.glb G 11, 1, I.glb⟩ false ((slF x p mm f).set 3 (some (.r 4))) eT3 rt = some (.ls [.cl (.bl true), .cl (.bl true), .cl (.bl false), .cl (.bl true), .cl (.bl false), .cl (.bl false)], rt) := fun rt => by
    simp [eT3, ev, evs, z6]
  have r1 : (rt0 (.cl (.scr ns)) t' o).set 4 (some (.ls [.cl (.bl true), .cl (.bl true), .cl (.bl false), .cl (.bl true)])) = [some (.cl (.scr ns)), none, some t', none, some (.ls [.cl (.bl true), .cl (.bl true), .cl (.bl false), .cl (.bl true)]), none, none, none, o, none] := rfl
  have s4 : Mi.ex ⟨sem I.glb G 11, 1, I.glb⟩ (.ret (.cmp .eq (.bin .add (.get (.var 3)) eT2) eT3)) ((slF x p mm f).set 3 (some (.r 4))) ((rt0 (.cl (.scr ns)) t' o).set 4 (some (.ls [.cl (.bl true), .cl (.bl true), .cl (.bl false), .cl (.bl true)]))) = some (.rt (.cl (.bl true)), (slF x p mm f).set 3 (some (.r 4)), [some (.cl (.scr ns)), none, some t', none, some (.cl (.lst [.bl true, .bl true, .bl false, .bl true])), none, none, none, o, none]) := by
    have ec : ∀ sl rt1 rt2, ev ⟨sem I.glb G 11, 1, I.glb⟩ false sl (.get (.var 3)) rt1 = some (.cl (.lst [.bl true, .bl true, .bl false, .bl true]), rt2) → ev ⟨sem I.glb G 11, 1, I.glb⟩ false sl eT3 rt2 = some (.ls [.cl (.bl true), .cl (.bl true), .cl (.bl false), .cl (.bl true), .cl (.bl false), .cl (.bl false)], rt2) → ev ⟨sem I.glb G 11, 1, I.glb⟩ true sl (.cmp .eq (.bin .add (.get (.var 3)) eT2) eT3) rt1 = some (.cl (.bl true), rt2) := fun sl rt1 rt2 h1 h2 => by
      refine cmp_of (ev_bin_of h1 (h2_ev 8 sl rt2) (t := .ls [.cl (.bl true), .cl (.bl true), .cl (.bl false), .cl (.bl true), .cl (.bl false), .cl (.bl false)]) ?_) h2 ?_
      · exact oB_cat (by decide)
      · rw [oC_eq]
        exact eqD_bls [true, true, false, true, false, false] [true, true, false, true, false, false]
    unfold Mi.ex
    have h := ec ((slF x p mm f).set 3 (some (.r 4))) ((rt0 (.cl (.scr ns)) t' o).set 4 (some (.ls [.cl (.bl true), .cl (.bl true), .cl (.bl false), .cl (.bl true)]))) _ (by rw [r1]; simp [ev, pt, slF, sl0, P.root, P.isVar, close, T.d, T.ds]; rfl) (e3 _)
    -- the value may be moved by the return
    rw [h]
  exact ⟨_, runFn_rt (as' := [.cl (.scr ns)]) rfl (exs_nx s1 (exs_nx s2' (exs_nx s3 (exs_rt s4)))) rfl⟩
end Mi.Law
namespace Mi.Law
def depth : Nat := 11
end Mi.Law
namespace Mi.Law
open PySem PySem.Spec PyProof.Rows L2
theorem pat_split {l lf : List (Nat × Nat × List Str × List Nat)} {f n : Nat} {ks : List Str} {pm : List Nat} (h : l.filter (fun p => p.1 == f) = lf) (m : (f, n, ks, pm) ∈ l) : (f, n, ks, pm) ∈ lf := h ▸ List.mem_filter.mpr ⟨m, by simp⟩
theorem pat0 {K : PySem.W.Frag} {kV dc pm cd ct : Value} {an : Option Addr} : ∀ n ks pm', (0, n, ks, pm') ∈ I.pat → PatOk K (PySem.W.fnOf "numbers_by" "numbers_by" (defArgs (top 1)) (defBody (top 1)) (defScope (top 1)) .none kV dc pm an cd ct) p0 n ks pm' := by
  intro n ks pm' m
  have m := pat_split (lf := [(0, 2, [], [0, 1])]) rfl m
  rcases List.mem_cons.mp m with e | m
  · cases e
    exact fun s us ws _ h1 h2 => match us, ws, h1, h2 with | [_, _], [], _, _ => ⟨_, rfl, .of_eq rfl⟩
  cases m
theorem pat1 {K : PySem.W.Frag} {kV dc pm cd ct : Value} {an : Option Addr} : ∀ n ks pm', (1, n, ks, pm') ∈ I.pat → PatOk K (PySem.W.fnOf "is_calm" "is_calm" (defArgs (top 2)) (defBody (top 2)) (defScope (top 2)) .none kV dc pm an cd ct) p1 n ks pm' := by
  intro n ks pm' m
  have m := pat_split (lf := [(1, 0, ["number", "polynomial"], [1, 0]), (1, 2, [], [0, 1])]) rfl m
  rcases List.mem_cons.mp m with e | m
  · cases e
    exact fun s us ws _ h1 h2 => match us, ws, h1, h2 with | [], [_, _], _, _ => ⟨_, rfl, .of_eq rfl⟩
  rcases List.mem_cons.mp m with e | m
  · cases e
    exact fun s us ws _ h1 h2 => match us, ws, h1, h2 with | [_, _], [], _, _ => ⟨_, rfl, .of_eq rfl⟩
  cases m
theorem pat2 {K : PySem.W.Frag} {kV dc pm cd ct : Value} {an : Option Addr} : ∀ n ks pm', (2, n, ks, pm') ∈ I.pat → PatOk K (PySem.W.fnOf "_law_deck" "_law_deck" (defArgs (top 4)) (defBody (top 4)) (defScope (top 4)) .none kV dc pm an cd ct) p2 n ks pm' := by
  intro n ks pm' m
  have m := pat_split (lf := [(2, 1, [], [0])]) rfl m
  rcases List.mem_cons.mp m with e | m
  · cases e
    exact fun s us ws _ h1 h2 => match us, ws, h1, h2 with | [_], [], _, _ => ⟨_, rfl, .of_eq rfl⟩
  cases m
theorem pat3 {K : PySem.W.Frag} {kV dc pm cd ct : Value} {an : Option Addr} : ∀ n ks pm', (3, n, ks, pm') ∈ I.pat → PatOk K (PySem.W.fnOf "_law_draw" "_law_draw" (defArgs (top 5)) (defBody (top 5)) (defScope (top 5)) .none kV dc pm an cd ct) p3 n ks pm' := by
  intro n ks pm' m
  have m := pat_split (lf := [(3, 2, [], [0, 1])]) rfl m
  rcases List.mem_cons.mp m with e | m
  · cases e
    exact fun s us ws _ h1 h2 => match us, ws, h1, h2 with | [_, _], [], _, _ => ⟨_, rfl, .of_eq rfl⟩
  cases m
theorem pat4 {K : PySem.W.Frag} {kV dc pm cd ct : Value} {an : Option Addr} : ∀ n ks pm', (4, n, ks, pm') ∈ I.pat → PatOk K (PySem.W.fnOf "_law_pick" "_law_pick" (defArgs (top 6)) (defBody (top 6)) (defScope (top 6)) .none kV dc pm an cd ct) p4 n ks pm' := by
  intro n ks pm' m
  have m := pat_split (lf := [(4, 2, [], [0, 1])]) rfl m
  rcases List.mem_cons.mp m with e | m
  · cases e
    exact fun s us ws _ h1 h2 => match us, ws, h1, h2 with | [_, _], [], _, _ => ⟨_, rfl, .of_eq rfl⟩
  cases m
theorem pat5 {K : PySem.W.Frag} {kV dc pm cd ct : Value} {an : Option Addr} : ∀ n ks pm', (5, n, ks, pm') ∈ I.pat → PatOk K (PySem.W.fnOf "_law_values" "_law_values" (defArgs (top 7)) (defBody (top 7)) (defScope (top 7)) .none kV dc pm an cd ct) p5 n ks pm' := by
  intro n ks pm' m
  have m := pat_split (lf := [(5, 2, [], [0, 1])]) rfl m
  rcases List.mem_cons.mp m with e | m
  · cases e
    exact fun s us ws _ h1 h2 => match us, ws, h1, h2 with | [_, _], [], _, _ => ⟨_, rfl, .of_eq rfl⟩
  cases m
theorem pat6 {K : PySem.W.Frag} {kV dc pm cd ct : Value} {an : Option Addr} : ∀ n ks pm', (6, n, ks, pm') ∈ I.pat → PatOk K (PySem.W.fnOf "_law_planted" "_law_planted" (defArgs (top 8)) (defBody (top 8)) (defScope (top 8)) .none kV dc pm an cd ct) p6 n ks pm' := by
  intro n ks pm' m
  have m := pat_split (lf := [(6, 1, [], [0])]) rfl m
  rcases List.mem_cons.mp m with e | m
  · cases e
    exact fun s us ws _ h1 h2 => match us, ws, h1, h2 with | [_], [], _, _ => ⟨_, rfl, .of_eq rfl⟩
  cases m
theorem pat7 {K : PySem.W.Frag} {kV dc pm cd ct : Value} {an : Option Addr} : ∀ n ks pm', (7, n, ks, pm') ∈ I.pat → PatOk K (PySem.W.fnOf "_law_any" "_law_any" (defArgs (top 9)) (defBody (top 9)) (defScope (top 9)) .none kV dc pm an cd ct) p7 n ks pm' := by
  intro n ks pm' m
  have m := pat_split (lf := [(7, 1, [], [0])]) rfl m
  rcases List.mem_cons.mp m with e | m
  · cases e
    exact fun s us ws _ h1 h2 => match us, ws, h1, h2 with | [_], [], _, _ => ⟨_, rfl, .of_eq rfl⟩
  cases m
theorem pat8 {K : PySem.W.Frag} {kV dc pm cd ct : Value} {an : Option Addr} : ∀ n ks pm', (8, n, ks, pm') ∈ I.pat → PatOk K (PySem.W.fnOf "_law_is_told" "_law_is_told" (defArgs (top 10)) (defBody (top 10)) (defScope (top 10)) .none kV dc pm an cd ct) p8 n ks pm' := by
  intro n ks pm' m
  have m := pat_split (lf := [(8, 2, [], [0, 1])]) rfl m
  rcases List.mem_cons.mp m with e | m
  · cases e
    exact fun s us ws _ h1 h2 => match us, ws, h1, h2 with | [_, _], [], _, _ => ⟨_, rfl, .of_eq rfl⟩
  cases m
theorem pat9 {K : PySem.W.Frag} {kV dc pm cd ct : Value} {an : Option Addr} : ∀ n ks pm', (9, n, ks, pm') ∈ I.pat → PatOk K (PySem.W.fnOf "law" "law" (defArgs (top 11)) (defBody (top 11)) (defScope (top 11)) .none kV dc pm an cd ct) p9 n ks pm' := by
  intro n ks pm' m
  have m := pat_split (lf := []) rfl m
  cases m
theorem all_mk {l : PySem.W.OpenLaw} {w : World} {K : PySem.W.Frag} {h : Heap} {mg : Str → Option Value} {fa : Addr} (X : K.In h) (Gr : h.Ns mainGlobals mg) (hfa : mg "law" = some (.ref fa))
    {a0 a1 a2 a3 a4 a5 a6 a7 a8 a9 : Addr} {od0 an0 od1 an1 od2 an2 od3 an3 od4 an4 od5 an5 od6 an6 od7 an7 od8 an8 od9 an9 : Option Addr} {sl0 sl1 sl2 sl3 sl4 sl5 sl6 sl7 sl8 sl9 : Array (Option Value)} {oc0 kV0 dc0 pm0 cd0 ct0 oc1 kV1 dc1 pm1 cd1 ct1 oc2 kV2 dc2 pm2 cd2 ct2 oc3 kV3 dc3 pm3 cd3 ct3 oc4 kV4 dc4 pm4 cd4 ct4 oc5 kV5 dc5 pm5 cd5 ct5 oc6 kV6 dc6 pm6 cd6 ct6 oc7 kV7 dc7 pm7 cd7 ct7 oc8 kV8 dc8 pm8 cd8 ct8 oc9 kV9 dc9 pm9 cd9 ct9 : Value}
    (e0 : PySem.W.nsIn K mainGlobals "numbers_by" = some (some (.ref a0))) (l0 : K.lookup a0 = some ⟨oc0, od0, .func (PySem.W.fnOf "numbers_by" "numbers_by" (defArgs (top 1)) (defBody (top 1)) (defScope (top 1)) .none kV0 dc0 pm0 an0 cd0 ct0), sl0⟩) (c0 : PySem.W.codeIn K cd0 "numbers_by" = true) (k0 : PySem.W.keepIn K (.ref a0) = true)
    (e1 : PySem.W.nsIn K mainGlobals "is_calm" = some (some (.ref a1))) (l1 : K.lookup a1 = some ⟨oc1, od1, .func (PySem.W.fnOf "is_calm" "is_calm" (defArgs (top 2)) (defBody (top 2)) (defScope (top 2)) .none kV1 dc1 pm1 an1 cd1 ct1), sl1⟩) (c1 : PySem.W.codeIn K cd1 "is_calm" = true) (k1 : PySem.W.keepIn K (.ref a1) = true)
    (e2 : PySem.W.nsIn K mainGlobals "_law_deck" = some (some (.ref a2))) (l2 : K.lookup a2 = some ⟨oc2, od2, .func (PySem.W.fnOf "_law_deck" "_law_deck" (defArgs (top 4)) (defBody (top 4)) (defScope (top 4)) .none kV2 dc2 pm2 an2 cd2 ct2), sl2⟩) (c2 : PySem.W.codeIn K cd2 "_law_deck" = true) (k2 : PySem.W.keepIn K (.ref a2) = true)
    (e3 : PySem.W.nsIn K mainGlobals "_law_draw" = some (some (.ref a3))) (l3 : K.lookup a3 = some ⟨oc3, od3, .func (PySem.W.fnOf "_law_draw" "_law_draw" (defArgs (top 5)) (defBody (top 5)) (defScope (top 5)) .none kV3 dc3 pm3 an3 cd3 ct3), sl3⟩) (c3 : PySem.W.codeIn K cd3 "_law_draw" = true) (k3 : PySem.W.keepIn K (.ref a3) = true)
    (e4 : PySem.W.nsIn K mainGlobals "_law_pick" = some (some (.ref a4))) (l4 : K.lookup a4 = some ⟨oc4, od4, .func (PySem.W.fnOf "_law_pick" "_law_pick" (defArgs (top 6)) (defBody (top 6)) (defScope (top 6)) .none kV4 dc4 pm4 an4 cd4 ct4), sl4⟩) (c4 : PySem.W.codeIn K cd4 "_law_pick" = true) (k4 : PySem.W.keepIn K (.ref a4) = true)
    (e5 : PySem.W.nsIn K mainGlobals "_law_values" = some (some (.ref a5))) (l5 : K.lookup a5 = some ⟨oc5, od5, .func (PySem.W.fnOf "_law_values" "_law_values" (defArgs (top 7)) (defBody (top 7)) (defScope (top 7)) .none kV5 dc5 pm5 an5 cd5 ct5), sl5⟩) (c5 : PySem.W.codeIn K cd5 "_law_values" = true) (k5 : PySem.W.keepIn K (.ref a5) = true)
    (e6 : PySem.W.nsIn K mainGlobals "_law_planted" = some (some (.ref a6))) (l6 : K.lookup a6 = some ⟨oc6, od6, .func (PySem.W.fnOf "_law_planted" "_law_planted" (defArgs (top 8)) (defBody (top 8)) (defScope (top 8)) .none kV6 dc6 pm6 an6 cd6 ct6), sl6⟩) (c6 : PySem.W.codeIn K cd6 "_law_planted" = true) (k6 : PySem.W.keepIn K (.ref a6) = true)
    (e7 : PySem.W.nsIn K mainGlobals "_law_any" = some (some (.ref a7))) (l7 : K.lookup a7 = some ⟨oc7, od7, .func (PySem.W.fnOf "_law_any" "_law_any" (defArgs (top 9)) (defBody (top 9)) (defScope (top 9)) .none kV7 dc7 pm7 an7 cd7 ct7), sl7⟩) (c7 : PySem.W.codeIn K cd7 "_law_any" = true) (k7 : PySem.W.keepIn K (.ref a7) = true)
    (e8 : PySem.W.nsIn K mainGlobals "_law_is_told" = some (some (.ref a8))) (l8 : K.lookup a8 = some ⟨oc8, od8, .func (PySem.W.fnOf "_law_is_told" "_law_is_told" (defArgs (top 10)) (defBody (top 10)) (defScope (top 10)) .none kV8 dc8 pm8 an8 cd8 ct8), sl8⟩) (c8 : PySem.W.codeIn K cd8 "_law_is_told" = true) (k8 : PySem.W.keepIn K (.ref a8) = true)
    (e9 : PySem.W.nsIn K mainGlobals "law" = some (some (.ref a9))) (l9 : K.lookup a9 = some ⟨oc9, od9, .func (PySem.W.fnOf "law" "law" (defArgs (top 11)) (defBody (top 11)) (defScope (top 11)) .none kV9 dc9 pm9 an9 cd9 ct9), sl9⟩) (c9 : PySem.W.codeIn K cd9 "law" = true) (k9 : PySem.W.keepIn K (.ref a9) = true)
    (z0 : PySem.W.nsIn K mainGlobals "len" = some none)
    (z1 : PySem.W.nsIn K mainGlobals "int" = some none)
    (z2 : PySem.W.nsIn K mainGlobals "str" = some none)
    (z3 : PySem.W.nsIn K mainGlobals "repr" = some none)
    (z4 : PySem.W.nsIn K mainGlobals "tuple" = some none)
    (z5 : PySem.W.nsIn K mainGlobals "list" = some none)
    (z6 : PySem.W.nsIn K mainGlobals "sum" = some none)
    (z7 : PySem.W.nsIn K mainGlobals "max" = some none)
    (z8 : PySem.W.nsIn K mainGlobals "min" = some none)
    (z9 : PySem.W.nsIn K mainGlobals "abs" = some none)
    (z10 : PySem.W.nsIn K mainGlobals "all" = some none)
    (z11 : PySem.W.nsIn K mainGlobals "any" = some none)
    (z12 : PySem.W.nsIn K mainGlobals "range" = some none)
    (z13 : PySem.W.nsIn K mainGlobals "enumerate" = some none)
    (z14 : PySem.W.nsIn K mainGlobals "zip" = some none)
    (z15 : PySem.W.nsIn K mainGlobals "isinstance" = some none)
    (z16 : PySem.W.nsIn K mainGlobals "sorted" = some none)
    (z17 : PySem.W.nsIn K mainGlobals "dict" = some none)
    (z18 : PySem.W.nsIn K mainGlobals "reversed" = some none)
    : ∃ (C : Nat → Addr) (fd : FuncData), (∀ (s : Shared) (u : Value), BindsTo s fd ⟨[u], []⟩ [("_law_script", u)]) ∧ ∀ base : Heap, K.In base → base.Ns mainGlobals mg → FOk l.prog w K mg base (depth + 1) fa fd ["_law_script"] (spF K C (sem I.glb G (depth + 1)) 9) := by
  have blt : ∀ x, x ∈ bltNames → mg x = none := fun x m => by
    rcases (by simpa [bltNames] using m : x = "len" ∨ x = "int" ∨ x = "str" ∨ x = "repr" ∨ x = "tuple" ∨ x = "list" ∨ x = "sum" ∨ x = "max" ∨ x = "min" ∨ x = "abs" ∨ x = "all" ∨ x = "any" ∨ x = "range" ∨ x = "enumerate" ∨ x = "zip" ∨ x = "isinstance" ∨ x = "sorted" ∨ x = "dict" ∨ x = "reversed") with rfl | rfl | rfl | rfl | rfl | rfl | rfl | rfl | rfl | rfl | rfl | rfl | rfl | rfl | rfl | rfl | rfl | rfl | rfl
    · exact PySem.W.mg_none_of X Gr z0
    · exact PySem.W.mg_none_of X Gr z1
    · exact PySem.W.mg_none_of X Gr z2
    · exact PySem.W.mg_none_of X Gr z3
    · exact PySem.W.mg_none_of X Gr z4
    · exact PySem.W.mg_none_of X Gr z5
    · exact PySem.W.mg_none_of X Gr z6
    · exact PySem.W.mg_none_of X Gr z7
    · exact PySem.W.mg_none_of X Gr z8
    · exact PySem.W.mg_none_of X Gr z9
    · exact PySem.W.mg_none_of X Gr z10
    · exact PySem.W.mg_none_of X Gr z11
    · exact PySem.W.mg_none_of X Gr z12
    · exact PySem.W.mg_none_of X Gr z13
    · exact PySem.W.mg_none_of X Gr z14
    · exact PySem.W.mg_none_of X Gr z15
    · exact PySem.W.mg_none_of X Gr z16
    · exact PySem.W.mg_none_of X Gr z17
    · exact PySem.W.mg_none_of X Gr z18
  have e := hfa.symm.trans (PySem.W.mg_of X Gr e9)
  cases e
  have C0 : Card l.prog w K mg I 0 "numbers_by" f0 a0 (PySem.W.fnOf "numbers_by" "numbers_by" (defArgs (top 1)) (defBody (top 1)) (defScope (top 1)) .none kV0 dc0 pm0 an0 cd0 ct0) p0 := ⟨PySem.W.mg_of X Gr e0, k0, pat0, _, _, _, _, _, _, _, _, _, _, _, _, _, _, _, _, rfl, l0, c0, s0, rfl, rfl, o0⟩
  have C1 : Card l.prog w K mg I 1 "is_calm" f1 a1 (PySem.W.fnOf "is_calm" "is_calm" (defArgs (top 2)) (defBody (top 2)) (defScope (top 2)) .none kV1 dc1 pm1 an1 cd1 ct1) p1 := ⟨PySem.W.mg_of X Gr e1, k1, pat1, _, _, _, _, _, _, _, _, _, _, _, _, _, _, _, _, rfl, l1, c1, s1, rfl, rfl, o1⟩
  have C2 : Card l.prog w K mg I 2 "_law_deck" f2 a2 (PySem.W.fnOf "_law_deck" "_law_deck" (defArgs (top 4)) (defBody (top 4)) (defScope (top 4)) .none kV2 dc2 pm2 an2 cd2 ct2) p2 := ⟨PySem.W.mg_of X Gr e2, k2, pat2, _, _, _, _, _, _, _, _, _, _, _, _, _, _, _, _, rfl, l2, c2, s2, rfl, rfl, o2⟩
  have C3 : Card l.prog w K mg I 3 "_law_draw" f3 a3 (PySem.W.fnOf "_law_draw" "_law_draw" (defArgs (top 5)) (defBody (top 5)) (defScope (top 5)) .none kV3 dc3 pm3 an3 cd3 ct3) p3 := ⟨PySem.W.mg_of X Gr e3, k3, pat3, _, _, _, _, _, _, _, _, _, _, _, _, _, _, _, _, rfl, l3, c3, s3, rfl, rfl, o3⟩
  have C4 : Card l.prog w K mg I 4 "_law_pick" f4 a4 (PySem.W.fnOf "_law_pick" "_law_pick" (defArgs (top 6)) (defBody (top 6)) (defScope (top 6)) .none kV4 dc4 pm4 an4 cd4 ct4) p4 := ⟨PySem.W.mg_of X Gr e4, k4, pat4, _, _, _, _, _, _, _, _, _, _, _, _, _, _, _, _, rfl, l4, c4, s4, rfl, rfl, o4⟩
  have C5 : Card l.prog w K mg I 5 "_law_values" f5 a5 (PySem.W.fnOf "_law_values" "_law_values" (defArgs (top 7)) (defBody (top 7)) (defScope (top 7)) .none kV5 dc5 pm5 an5 cd5 ct5) p5 := ⟨PySem.W.mg_of X Gr e5, k5, pat5, _, _, _, _, _, _, _, _, _, _, _, _, _, _, _, _, rfl, l5, c5, s5, rfl, rfl, o5⟩
  have C6 : Card l.prog w K mg I 6 "_law_planted" f6 a6 (PySem.W.fnOf "_law_planted" "_law_planted" (defArgs (top 8)) (defBody (top 8)) (defScope (top 8)) .none kV6 dc6 pm6 an6 cd6 ct6) p6 := ⟨PySem.W.mg_of X Gr e6, k6, pat6, _, _, _, _, _, _, _, _, _, _, _, _, _, _, _, _, rfl, l6, c6, s6, rfl, rfl, o6⟩
  have C7 : Card l.prog w K mg I 7 "_law_any" f7 a7 (PySem.W.fnOf "_law_any" "_law_any" (defArgs (top 9)) (defBody (top 9)) (defScope (top 9)) .none kV7 dc7 pm7 an7 cd7 ct7) p7 := ⟨PySem.W.mg_of X Gr e7, k7, pat7, _, _, _, _, _, _, _, _, _, _, _, _, _, _, _, _, rfl, l7, c7, s7, rfl, rfl, o7⟩
  have C8 : Card l.prog w K mg I 8 "_law_is_told" f8 a8 (PySem.W.fnOf "_law_is_told" "_law_is_told" (defArgs (top 10)) (defBody (top 10)) (defScope (top 10)) .none kV8 dc8 pm8 an8 cd8 ct8) p8 := ⟨PySem.W.mg_of X Gr e8, k8, pat8, _, _, _, _, _, _, _, _, _, _, _, _, _, _, _, _, rfl, l8, c8, s8, rfl, rfl, o8⟩
  have C9 : Card l.prog w K mg I 9 "law" f9 fa (PySem.W.fnOf "law" "law" (defArgs (top 11)) (defBody (top 11)) (defScope (top 11)) .none kV9 dc9 pm9 an9 cd9 ct9) p9 := ⟨PySem.W.mg_of X Gr e9, k9, pat9, _, _, _, _, _, _, _, _, _, _, _, _, _, _, _, _, rfl, l9, c9, s9, rfl, rfl, o9⟩
  have cards : ∀ (f : Nat) (x : Str), I.fnm[f]? = some x → ∃ fn a fd ps, G[f]? = some fn ∧ Card l.prog w K mg I f x fn a fd ps := fun f x e => by
    match f, e with
    | 0, e => cases e; exact ⟨_, _, _, _, rfl, C0⟩
    | 1, e => cases e; exact ⟨_, _, _, _, rfl, C1⟩
    | 2, e => cases e; exact ⟨_, _, _, _, rfl, C2⟩
    | 3, e => cases e; exact ⟨_, _, _, _, rfl, C3⟩
    | 4, e => cases e; exact ⟨_, _, _, _, rfl, C4⟩
    | 5, e => cases e; exact ⟨_, _, _, _, rfl, C5⟩
    | 6, e => cases e; exact ⟨_, _, _, _, rfl, C6⟩
    | 7, e => cases e; exact ⟨_, _, _, _, rfl, C7⟩
    | 8, e => cases e; exact ⟨_, _, _, _, rfl, C8⟩
    | 9, e => cases e; exact ⟨_, _, _, _, rfl, C9⟩
    | n + 10, e => cases e
  exact ⟨fun _ => 0, _, fun s u => .of_eq rfl, fun base _ _ => card_fok (tower blt (fun x d e => by cases e) (fun c f m => by cases m) cards depth) rfl C9⟩
end Mi.Law
open PySem PySem.W PyProof.Rows
set_option maxRecDepth 100000 in
set_option maxHeartbeats 0 in
theorem PySem.Challenge.cw_runcounts_k31_calm_polynomials_holds : PySem.Challenge.rw_runcounts_k31_calm_polynomials.Holds := by
  w_on; o_law; k_head; (case hw => w_witness2)
  k_fill
  refine Mi.walk_mi (l := PySem.Challenge.rw_runcounts_k31_calm_polynomials) (k := Mi.Law.depth + 1) (n := 63) (x := "_law_script") (I := Mi.Law.I) (G := Mi.Law.G) (fl := 9) rfl (by decide) rfl ⟨rfl, by decide, by decide⟩ (fun w h Y => PySem.W.kIn_of Y) ?F Mi.Law.pure
  case F =>
    intro w mg fa h KX G hmg
    refine' Mi.Law.all_mk KX G hmg ?e0 ?l0 ?c0 ?k0 ?e1 ?l1 ?c1 ?k1 ?e2 ?l2 ?c2 ?k2 ?e3 ?l3 ?c3 ?k3 ?e4 ?l4 ?c4 ?k4 ?e5 ?l5 ?c5 ?k5 ?e6 ?l6 ?c6 ?k6 ?e7 ?l7 ?c7 ?k7 ?e8 ?l8 ?c8 ?k8 ?e9 ?l9 ?c9 ?k9 ?z0 ?z1 ?z2 ?z3 ?z4 ?z5 ?z6 ?z7 ?z8 ?z9 ?z10 ?z11 ?z12 ?z13 ?z14 ?z15 ?z16 ?z17 ?z18
    (case e0 => k_is)
    (case l0 => k_is)
    (case c0 => k_is)
    (case k0 => k_is)
    (case e1 => k_is)
    (case l1 => k_is)
    (case c1 => k_is)
    (case k1 => k_is)
    (case e2 => k_is)
    (case l2 => k_is)
    (case c2 => k_is)
    (case k2 => k_is)
    (case e3 => k_is)
    (case l3 => k_is)
    (case c3 => k_is)
    (case k3 => k_is)
    (case e4 => k_is)
    (case l4 => k_is)
    (case c4 => k_is)
    (case k4 => k_is)
    (case e5 => k_is)
    (case l5 => k_is)
    (case c5 => k_is)
    (case k5 => k_is)
    (case e6 => k_is)
    (case l6 => k_is)
    (case c6 => k_is)
    (case k6 => k_is)
    (case e7 => k_is)
    (case l7 => k_is)
    (case c7 => k_is)
    (case k7 => k_is)
    (case e8 => k_is)
    (case l8 => k_is)
    (case c8 => k_is)
    (case k8 => k_is)
    (case e9 => k_is)
    (case l9 => k_is)
    (case c9 => k_is)
    (case k9 => k_is)
    (case z0 => k_is)
    (case z1 => k_is)
    (case z2 => k_is)
    (case z3 => k_is)
    (case z4 => k_is)
    (case z5 => k_is)
    (case z6 => k_is)
    (case z7 => k_is)
    (case z8 => k_is)
    (case z9 => k_is)
    (case z10 => k_is)
    (case z11 => k_is)
    (case z12 => k_is)
    (case z13 => k_is)
    (case z14 => k_is)
    (case z15 => k_is)
    (case z16 => k_is)
    (case z17 => k_is)
    (case z18 => k_is)
