import PyProof.Rows.All
import Wide.All
import OpenK.AllK
import Wide.FinOn
import KE.KStateDown
import Lean
import HandS.ForMost
import HandS.Wide
import HandS.Gcd
import HandS.Style
import HandS.TupAny
import HandS.Deep
import HandS.Zip
import HandS.Iter
import HandS.Flow
import HandS.Comp
import HandS.Words
import HandS.Defaults
import HandS.HeadEnd
import HandS.Base
import HandS.Call
import HandS.Ends
import HandS.More
import HandS.WordsExc
import HandS.Head0
import HandS.Head1
import HandS.Head2
import HandS.HeadHook1
import HandS.HeadHook2
import HandS.HeadHook3
import HandS.HeadHook4
import HandS.Head3
import PySem.Challenge.RW_nearestheld_k05_whole_fractions_by_own_s
set_option Elab.async false
set_option linter.all false
set_option maxRecDepth 100000
set_option maxHeartbeats 0
/-! VI1: plain data, the small language, what it means (predicate transformers). -/
namespace VI
open PySem

abbrev D := PyData
/-- what an expression gives: data; a list of the frame's own that may change; a list that outlives the frame -/
inductive EV where
  | d (x : D) | lm (n : Nat) | gm (n : Nat) | sc (xs : List D)
/-- the lists that may change -/
structure Sto where
  g : List (List D)
  l : List (Option (List D))
abbrev En := List (Option EV)
abbrev KE := EV → Sto → Prop
/-- what a def means: arguments, outliving lists, what is wanted -/
abbrev Sem := List EV → List (List D) → (EV → List (List D) → Prop) → Prop
structure Tb where
  fn : List (Str × Nat × Sem)
  gl : List (Str × D)
def Tb.sem (tb : Tb) (k : Nat) : Sem := match tb.fn[k]? with
  | some q => q.2.2
  | none => fun _ _ _ => False

/-- both ways -/
def brP (x : Bool) (a b : Prop) : Prop := (x = true → a) ∧ (x = false → b)
theorem brT {a b : Prop} (h : a) : brP true a b := ⟨fun _ => h, fun z => Bool.noConfusion z⟩
theorem brF {a b : Prop} (h : b) : brP false a b := ⟨fun z => Bool.noConfusion z, fun _ => h⟩
theorem brT' {a b : Prop} (h : brP true a b) : a := h.1 rfl
theorem brF' {a b : Prop} (h : brP false a b) : b := h.2 rfl
def look : En → Nat → Option EV
  | [], _ => none
  | a :: _, 0 => a
  | _ :: r, n + 1 => look r n
def put : En → Nat → EV → En
  | [], _, _ => []
  | _ :: r, 0, v => some v :: r
  | a :: r, n + 1, v => a :: put r n v
def wipeE (env : En) : List Nat → En
  | [] => env
  | v :: vs => (wipeE env vs).set v none

inductive BOp where
  | add | sub | mul | fdiv | mod | pow
  deriving DecidableEq
inductive COp where
  | lt | le | gt | ge | eq | ne | isin | notin
  deriving DecidableEq
inductive Blt where
  | len | abs | int | min2 | max2 | gcd | all | any | tuple | list | repr
  deriving DecidableEq
inductive IE where
  | cst (d : D) | var (i : Nat) | glo (k : Nat)
  | bin (o : BOp) (a b : IE) | neg (a : IE) | nt (a : IE)
  | cmp (o : COp) (a b : IE) | cmp2 (o p : COp) (a b c : IE) | isN (a : IE) | notN (a : IE)
  | an (a b : IE) | oo (a b : IE) | ife (c a b : IE)
  | nil | cons (a r : IE)
  | tup (r : IE) | lst (kd : Nat) (r : IE)
  | ixc (a : IE) (n : Nat) | ix (a i : IE) | sl (kd : Nat) (a lo hi : IE)
  | call (k : Nat) (r : IE) | blt (b : Blt) (kd : Nat) (r : IE)
  | cmpr (kd : Nat) (own : List Nat) (tg it c e : IE)
  | rng (r : IE) | enm (r : IE) | zp (r : IE)
inductive IS where
  | skip | seq (a b : IS) | asg (t e : IE) | aug (o : BOp) (i : Nat) (e : IE) | augS (o : BOp) (a i e : IE) | setI (a i e : IE)
  | app (a e : IE) | ext (a e : IE) | exp (e : IE)
  | ifs (c : IE) (a b : IS) | whl (c : IE) (b : IS) | fr (t it : IE) (b : IS)
  | ret (e : IE) | ret0 | brk | cont | never | freeze (i : Nat)

/-- pieces -/
def cutD {α : Type} (xs : List α) (lo hi : Option Int) : List α := (xs.drop (HT.sIx xs.length 0 lo)).take (HT.sIx xs.length xs.length hi - HT.sIx xs.length 0 lo)
def newL (kd : Nat) (xs : List D) (st : Sto) (k : KE) : Prop := match kd with
  | 0 => k (.d (.list xs)) st
  | 1 => k (.lm st.l.length) ⟨st.g, st.l ++ [some xs]⟩
  | _ => k (.gm st.g.length) ⟨st.g ++ [xs], st.l⟩
/-- the items of a list (true) or a tuple (false) -/
def seqE (ev : EV) (st : Sto) (k : Bool → List D → Prop) : Prop := match ev with
  | .d (.list xs) => k true xs
  | .d (.tuple xs) => k false xs
  | .lm n => (match st.l[n]? with
    | some (some xs) => k true xs
    | _ => False)
  | .gm n => (match st.g[n]? with
    | some xs => k true xs
    | none => False)
  | .sc xs => k true xs
  | _ => False
def truE (ev : EV) (st : Sto) (k : Bool → Prop) : Prop := match ev with
  | .d .none => k false
  | .d (.bool b) => k b
  | .d (.int i) => k (i != 0)
  | .d (.str x) => x.length ≤ sizeLine ∧ k (x.length != 0)
  | ev => seqE ev st fun _ xs => k (!xs.isEmpty)
def dE (ev : EV) (k : D → Prop) : Prop := match ev with
  | .d x => k x
  | _ => False
def allD : List EV → (List D → Prop) → Prop
  | [], k => k []
  | .d x :: r, k => allD r fun xs => k (x :: xs)
  | _ :: _, _ => False
/-- arguments: none is a list of the frame's own -/
def argsK : List EV → Prop → Prop
  | [], p => p
  | .lm _ :: _, _ => False
  | .d _ :: r, p => argsK r p
  | .gm _ :: r, p => argsK r p
  | .sc _ :: r, p => argsK r p
def MulOk (i j : Int) : Prop := i.natAbs.log2 + j.natAbs.log2 < 1000000
def DivOk (j : Int) : Prop := 0 < j ∧ j.natAbs.log2 < 9000
def binK (o : BOp) (x y : EV) (k : EV → Prop) : Prop := match o, x, y with
  | .add, .d (.int i), .d (.int j) => k (.d (.int (i + j)))
  | .sub, .d (.int i), .d (.int j) => k (.d (.int (i - j)))
  | .mul, .d (.int i), .d (.int j) => MulOk i j ∧ k (.d (.int (i * j)))
  | .fdiv, .d (.int i), .d (.int j) => (j ≠ 0 ∧ j.natAbs.log2 < 9000) ∧ k (.d (.int (i.fdiv j)))
  | .mod, .d (.int i), .d (.int j) => 0 < j ∧ k (.d (.int (i % j)))
  | .pow, .d (.int i), .d (.int j) => (0 ≤ j ∧ j ≤ 1000000 ∧ i.natAbs < 2 ^ 64) ∧ k (.d (.int (i ^ j.toNat)))
  | .add, .d (.tuple a), .d (.tuple b) => a.length + b.length ≤ 1000000 ∧ k (.d (.tuple (a ++ b)))
  | .add, .d (.list a), .d (.list b) => a.length + b.length ≤ 1000000 ∧ k (.d (.list (a ++ b)))
  | .add, .d (.str a), .d (.str b) => a.length + b.length ≤ 1000000 ∧ k (.d (.str (a ++ b)))
  | .mul, .d (.list a), .d (.int n) => (0 ≤ n ∧ n ≤ 1000000 ∧ a.length * n.toNat ≤ 1000000) ∧ k (.d (.list (List.replicate n.toNat a).flatten))
  | _, _, _ => False
/-- x op= y: as x op y, where x is an int -/
def augK (o : BOp) (x y : EV) (k : EV → Prop) : Prop := (match x with
  | .d (.int _) => True
  | _ => False) ∧ o ≠ .pow ∧ binK o x y k
def Shp (x : D) : Prop := SeqAt.shaped x = true
/-- two ints, two strs -/
def flatP : D → D → Bool
  | .int _, .int _ => true
  | .str _, .str _ => true
  | _, _ => false
def cmpK (o : COp) (x y : EV) (st : Sto) (k : Bool → Prop) : Prop := match o, x, y with
  | .lt, .d (.int i), .d (.int j) => k (decide (i < j))
  | .le, .d (.int i), .d (.int j) => k (decide (i ≤ j))
  | .gt, .d (.int i), .d (.int j) => k (decide (j < i))
  | .ge, .d (.int i), .d (.int j) => k (decide (j ≤ i))
  | .eq, .d x, .d y => (flatP x y = true ∨ Shp x ∧ Shp y) ∧ k (PyData.eqv x y)
  | .ne, .d x, .d y => (flatP x y = true ∨ Shp x ∧ Shp y) ∧ k (!PyData.eqv x y)
  | .isin, .d (.str x), .d (.tuple ys) => (ys.all fun z => match z with | .str _ => true | _ => false) = true ∧ k (ys.any fun z => PyData.eqv z (.str x))
  | .notin, .d (.str x), .d (.tuple ys) => (ys.all fun z => match z with | .str _ => true | _ => false) = true ∧ k (!ys.any fun z => PyData.eqv z (.str x))
  | .isin, .d x, .d (.list ys) => Shp x ∧ Shp (.list ys) ∧ k (ys.any fun z => PyData.eqv z x)
  | .notin, .d x, .d (.list ys) => Shp x ∧ Shp (.list ys) ∧ k (!ys.any fun z => PyData.eqv z x)
  | _, _, _ => False
def isNonD : D → Bool
  | .none => true
  | _ => false
def boolsE : List D → (List Bool → Prop) → Prop
  | [], k => k []
  | .bool b :: r, k => boolsE r fun bs => k (b :: bs)
  | _ :: _, _ => False
mutual
/-- every int has fewer than 4,300 digits -/
def showB : PyData → Bool
  | .none | .bool _ | .str _ => true
  | .int i => decide (i.natAbs < 10 ^ 4300)
  | .list xs | .tuple xs => showBs xs
  | .dict _ => false
def showBs : List PyData → Bool
  | [] => true
  | x :: xs => showB x && showBs xs
end
def RepOk (x : D) : Prop := Shp x ∧ showB x = true ∧ x.shown.length ≤ 16000000
def bltK (b : Blt) (kd : Nat) (r : List EV) (st : Sto) (k : KE) : Prop := match b, r with
  | .len, [.d (.str x)] => x.length ≤ sizeLine ∧ k (.d (.int x.length)) st
  | .len, [ev] => seqE ev st fun _ xs => k (.d (.int xs.length)) st
  | .abs, [.d (.int i)] => k (.d (.int i.natAbs)) st
  | .int, [.d (.int i)] => k (.d (.int i)) st
  | .int, [.d (.bool b)] => k (.d (.int (if b = true then 1 else 0))) st
  | .min2, [.d (.int i), .d (.int j)] => k (.d (.int (min i j))) st
  | .max2, [.d (.int i), .d (.int j)] => k (.d (.int (max i j))) st
  | .gcd, [.d (.int i), .d (.int j)] => k (.d (.int (Int.gcd i j))) st
  | .all, [ev] => seqE ev st fun b xs => b = true ∧ boolsE xs fun bs => k (.d (.bool (bs.all id))) st
  | .any, [ev] => seqE ev st fun b xs => b = true ∧ boolsE xs fun bs => k (.d (.bool (bs.any id))) st
  | .tuple, [ev] => seqE ev st fun _ xs => k (.d (.tuple xs)) st
  | .list, [ev] => seqE ev st fun _ xs => newL kd xs st k
  | .repr, [.d x] => RepOk x ∧ k (.d (.str x.shown)) st
  | _, _ => False

/-- what a piece means -/
structure SE where
  e : En → Sto → KE → Prop
  t : En → Sto → (Bool → Sto → Prop) → Prop
  l : En → Sto → (List EV → Sto → Prop) → Prop
  i : En → Sto → (List D → Sto → Prop) → Prop
  a : EV → En → (En → Prop) → Prop
  al : List D → En → (En → Prop) → Prop
  o : En → Sto → (Option Int → Sto → Prop) → Prop
def noSE : SE where
  e := fun _ _ _ => False
  t := fun _ _ _ => False
  l := fun _ _ _ => False
  i := fun _ _ _ => False
  a := fun _ _ _ => False
  al := fun _ _ _ => False
  o := fun _ _ _ => False
def ofE (f : En → Sto → KE → Prop) : SE where
  e := f
  t := fun env st k => f env st fun ev st => truE ev st fun b => k b st
  l := fun _ _ _ => False
  i := fun env st k => f env st fun ev st => match ev with
    | .d (.list xs) => k xs st
    | .d (.tuple xs) => k xs st
    | .sc xs => k xs st
    | _ => False
  a := fun _ _ _ => False
  al := fun _ _ _ => False
  o := fun env st k => f env st fun ev st => match ev with
    | .d (.int n) => k (some n) st
    | _ => False
/-- what gives a truth -/
def ofB (f : En → Sto → (Bool → Sto → Prop) → Prop) : SE where
  e := fun env st k => f env st fun b st => k (.d (.bool b)) st
  t := f
  l := fun _ _ _ => False
  i := fun _ _ _ => False
  a := fun _ _ _ => False
  al := fun _ _ _ => False
  o := fun _ _ _ => False
def ofI (f : En → Sto → (List D → Sto → Prop) → Prop) : SE where
  e := fun _ _ _ => False
  t := fun _ _ _ => False
  l := fun _ _ _ => False
  i := f
  a := fun _ _ _ => False
  al := fun _ _ _ => False
  o := fun _ _ _ => False
def upto (lo : Int) (n : Nat) : List D := (List.range n).map fun i => .int (lo + (i : Nat))
def rngK (r : List EV) (st : Sto) (k : List D → Sto → Prop) : Prop := match r with
  | [.d (.int n)] => (-(2 ^ 62) ≤ n ∧ n < 2 ^ 62) ∧ k (upto 0 n.toNat) st
  | [.d (.int a), .d (.int b)] => (-(2 ^ 62) ≤ a ∧ a < 2 ^ 62 ∧ -(2 ^ 62) ≤ b ∧ b < 2 ^ 62) ∧ k (upto a (b - a).toNat) st
  | _ => False
def enmK (r : List EV) (st : Sto) (k : List D → Sto → Prop) : Prop := match r with
  | [.d (.list xs)] => k (xs.mapIdx fun i x => .tuple [.int (i : Nat), x]) st
  | _ => False
def zpK (r : List EV) (st : Sto) (k : List D → Sto → Prop) : Prop := match r with
  | [.d (.list xs), .d (.list ys)] => k (List.zipWith (fun x y => .tuple [x, y]) xs ys) st
  | [.d (.tuple xs), .d (.tuple ys)] => k (List.zipWith (fun x y => .tuple [x, y]) xs ys) st
  | _ => False
def loopC (tg : EV → En → (En → Prop) → Prop) (c : En → Sto → (Bool → Sto → Prop) → Prop) (e : En → Sto → KE → Prop) (env : En) : List D → Sto → List D → (List D → Sto → Prop) → Prop
  | [], st, acc, k => k acc st
  | x :: r, st, acc, k => tg (.d x) env fun env' => c env' st fun b st1 => brP b (e env' st1 fun ev st2 => dE ev fun y => loopC tg c e env r st2 (acc ++ [y]) k) (loopC tg c e env r st1 acc k)
def sem (tb : Tb) : IE → SE
  | .cst d => ofE fun _ st k => k (.d d) st
  | .var i => { ofE (fun env st k => match look env i with
      | some ev => k ev st
      | none => False) with a := fun ev env k => k (put env i ev) }
  | .glo n => ofE fun _ st k => match tb.gl[n]? with
      | some q => k (.d q.2) st
      | none => False
  | .bin o a b => ofE fun env st k => (sem tb a).e env st fun x st => (sem tb b).e env st fun y st => binK o x y fun z => k z st
  | .neg a => ofE fun env st k => (sem tb a).e env st fun x st => match x with
      | .d (.int i) => k (.d (.int (-i))) st
      | _ => False
  | .nt a => { ofE (fun env st k => (sem tb a).e env st fun x st => truE x st fun b => k (.d (.bool (!b))) st) with t := fun env st k => (sem tb a).t env st fun b st => k (!b) st }
  | .cmp o a b => ofB fun env st k => (sem tb a).e env st fun x st => (sem tb b).e env st fun y st => cmpK o x y st fun z => k z st
  | .cmp2 o p a b c => ofB fun env st k => (sem tb a).e env st fun x st => (sem tb b).e env st fun y st => cmpK o x y st fun z => brP z ((sem tb c).e env st fun w st => cmpK p y w st fun z => k z st) (k false st)
  | .isN a => ofB fun env st k => (sem tb a).e env st fun x st => dE x fun y => k (isNonD y) st
  | .notN a => ofB fun env st k => (sem tb a).e env st fun x st => dE x fun y => k (!isNonD y) st
  | .an a b => { ofE (fun env st k => (sem tb a).e env st fun x st => match x with
      | .d (.bool c) => brP c ((sem tb b).e env st k) (k (.d (.bool false)) st)
      | _ => False) with t := fun env st k => (sem tb a).t env st fun x st => brP x ((sem tb b).t env st k) (k false st) }
  | .oo a b => { ofE (fun env st k => (sem tb a).e env st fun x st => match x with
      | .d (.bool c) => brP c (k (.d (.bool true)) st) ((sem tb b).e env st k)
      | _ => False) with t := fun env st k => (sem tb a).t env st fun x st => brP x (k true st) ((sem tb b).t env st k) }
  | .ife c a b => ofE fun env st k => (sem tb c).t env st fun x st => brP x ((sem tb a).e env st k) ((sem tb b).e env st k)
  | .nil => { noSE with
      t := fun _ st k => k true st
      l := fun _ st k => k [] st
      al := fun xs env k => xs = [] ∧ k env
      o := fun _ st k => k none st }
  | .cons a r => { noSE with
      l := fun env st k => (sem tb a).e env st fun x st => (sem tb r).l env st fun xs st => k (x :: xs) st
      al := fun xs env k => match xs with
        | [] => False
        | x :: xs => (sem tb a).a (.d x) env fun env => (sem tb r).al xs env k }
  | .tup r => { ofE (fun env st k => (sem tb r).l env st fun xs st => allD xs fun ys => k (.d (.tuple ys)) st) with a := fun ev env k => match ev with
      | .d (.tuple xs) => (sem tb r).al xs env k
      | _ => False }
  | .lst kd r => ofE fun env st k => (sem tb r).l env st fun xs st => allD xs fun ys => newL kd ys st k
  | .ixc a n => ofE fun env st k => (sem tb a).e env st fun x st => seqE x st fun _ xs => match xs[n]? with
      | some y => k (.d y) st
      | none => False
  | .ix a i => ofE fun env st k => (sem tb a).e env st fun x st => (sem tb i).e env st fun j st => match j with
      | .d (.int n) => seqE x st fun _ xs => (match L2.atI xs n with
        | some y => k (.d y) st
        | none => False)
      | _ => False
  | .sl kd a lo hi => ofE fun env st k => (sem tb a).e env st fun x st => (sem tb lo).o env st fun l st => (sem tb hi).o env st fun h st => match x with
      | .d (.tuple xs) => k (.d (.tuple (cutD xs l h))) st
      | .d (.str z) => z.length ≤ sizeLine ∧ k (.d (.str ⟨(cutD z.cps.toList l h).toArray⟩)) st
      | x => seqE x st fun _ xs => newL kd (cutD xs l h) st k
  | .call n r => ofE fun env st k => (sem tb r).l env st fun xs st => argsK xs (tb.sem n xs st.g fun v g => k v ⟨g, st.l⟩)
  | .blt b kd r => ofE fun env st k => (sem tb r).l env st fun xs st => bltK b kd xs st k
  | .cmpr kd own tg it c e => ofE fun env st k => (sem tb it).i env st fun xs st => xs.length ≤ 10000000 ∧ loopC (sem tb tg).a (sem tb c).t (sem tb e).e (wipeE env own) xs st [] fun ys st => newL kd ys st k
  | .rng r => ofI fun env st k => (sem tb r).l env st fun xs st => rngK xs st k
  | .enm r => ofI fun env st k => (sem tb r).l env st fun xs st => enmK xs st k
  | .zp r => ofI fun env st k => (sem tb r).l env st fun xs st => zpK xs st k

/-- what is wanted behind a statement -/
structure KS where
  nx : En → Sto → Prop
  rt : EV → Sto → Prop
  bk : En → Sto → Prop
  ct : En → Sto → Prop
/-- a list that may change: its new items -/
def setS (ev : EV) (st : Sto) (f : List D → (List D → Prop) → Prop) (k : Sto → Prop) : Prop := match ev with
  | .lm n => (match st.l[n]? with
    | some (some xs) => f xs fun ys => k ⟨st.g, st.l.set n (some ys)⟩
    | _ => False)
  | .gm n => (match st.g[n]? with
    | some xs => f xs fun ys => k ⟨st.g.set n ys, st.l⟩
    | none => False)
  | _ => False
/-- a list that may change -/
def mutE : EV → Prop
  | .lm _ => True
  | .gm _ => True
  | _ => False
def ixK (j : EV) (n : Nat) (k : Nat → Prop) : Prop := match j with
  | .d (.int i) => (match L2.ixN n i with
    | some m => k m
    | none => False)
  | _ => False
def loopF (tg : EV → En → (En → Prop) → Prop) (b : En → Sto → KS → Prop) : List D → En → Sto → KS → Prop
  | [], env, st, K => K.nx env st
  | x :: r, env, st, K => tg (.d x) env fun env' => b env' st { nx := fun e s => loopF tg b r e s K, rt := K.rt, bk := K.nx, ct := fun e s => loopF tg b r e s K }
def whlK (c : En → Sto → (Bool → Sto → Prop) → Prop) (b : En → Sto → KS → Prop) (env : En) (st : Sto) (K : KS) : Prop :=
  ∃ I : Nat → En → Sto → Prop, (∃ m, I m env st) ∧ ∀ m env st, I m env st → c env st fun t st => brP t (b env st { nx := fun e s => ∃ m', m' < m ∧ I m' e s, rt := K.rt, bk := K.nx, ct := fun e s => ∃ m', m' < m ∧ I m' e s }) (K.nx env st)
def semS (tb : Tb) : IS → En → Sto → KS → Prop
  | .skip, env, st, K => K.nx env st
  | .seq a b, env, st, K => semS tb a env st { K with nx := fun env st => semS tb b env st K }
  | .asg t e, env, st, K => (sem tb e).e env st fun ev st => (sem tb t).a ev env fun env => K.nx env st
  | .aug o i e, env, st, K => (match look env i with
      | some x => (sem tb e).e env st fun y st => augK o x y fun z => K.nx (put env i z) st
      | none => False)
  | .augS o a i e, env, st, K => (sem tb a).e env st fun x st => (sem tb i).e env st fun j st => seqE x st fun b xs => b = true ∧ ixK j xs.length fun m => (match xs[m]? with
      | some old => (sem tb e).e env st fun y st => augK o (.d old) y fun z => dE z fun w => setS x st (fun xs k => ixK j xs.length fun m => k (xs.set m w)) fun st => K.nx env st
      | none => False)
  | .setI a i e, env, st, K => (sem tb e).e env st fun y st => (sem tb a).e env st fun x st => (sem tb i).e env st fun j st => dE y fun w => setS x st (fun xs k => ixK j xs.length fun m => k (xs.set m w)) fun st => K.nx env st
  | .app a e, env, st, K => (sem tb a).e env st fun x st => mutE x ∧ (sem tb e).e env st fun y st => dE y fun w => setS x st (fun xs k => xs.length < 1000000 ∧ k (xs ++ [w])) fun st => K.nx env st
  | .ext a e, env, st, K => (sem tb a).e env st fun x st => mutE x ∧ (sem tb e).e env st fun y st => (match y with
      | .d (.list ys) => setS x st (fun xs k => xs.length + ys.length ≤ 1000000 ∧ k (xs ++ ys)) fun st => K.nx env st
      | _ => False)
  | .exp e, env, st, K => (sem tb e).e env st fun _ st => K.nx env st
  | .ifs c a b, env, st, K => (sem tb c).t env st fun x st => brP x (semS tb a env st K) (semS tb b env st K)
  | .whl c b, env, st, K => whlK (sem tb c).t (semS tb b) env st K
  | .fr t it b, env, st, K => (sem tb it).i env st fun xs st => loopF (sem tb t).a (semS tb b) xs env st K
  | .ret e, env, st, K => (sem tb e).e env st K.rt
  | .ret0, env, st, K => K.rt (.d .none) st
  | .brk, env, st, K => K.bk env st
  | .cont, env, st, K => K.ct env st
  | .never, _, _, _ => False
  | .freeze i, env, st, K => (match look env i with
      | some (.lm n) => (match st.l[n]? with
        | some (some xs) => K.nx (put env i (.d (.list xs))) ⟨st.g, st.l.set n none⟩
        | _ => False)
      | _ => False)
/-- a result that leaves its frame -/
def outE (ev : EV) (st : Sto) (k : EV → Prop) : Prop := match ev with
  | .d x => k (.d x)
  | .gm n => k (.gm n)
  | .lm n => (match st.l[n]? with
    | some (some xs) => k (.d (.list xs))
    | _ => False)
  | .sc _ => False
/-- a def by its body: n names, the parameters first -/
def semF (tb : Tb) (n : Nat) (b : IS) : Sem := fun vs g Q =>
  semS tb b (vs.map some ++ List.replicate (n - vs.length) none) ⟨g, []⟩ { nx := fun _ st => Q (.d .none) st.g, rt := fun ev st => outE ev st fun v => Q v st.g, bk := fun _ _ => False, ct := fun _ _ => False }
end VI

/-! VI2: the transformers are monotone. -/
namespace VI
open PySem
def SemMono (f : Sem) : Prop := ∀ vs g Q Q', (∀ v g, Q v g → Q' v g) → f vs g Q → f vs g Q'
def Tb.Mono (tb : Tb) : Prop := ∀ k, SemMono (tb.sem k)
theorem newL_mono {kd : Nat} {xs : List D} {st : Sto} {k k' : KE} (h : ∀ v s, k v s → k' v s) (q : newL kd xs st k) : newL kd xs st k' := by
  unfold newL at q ⊢
  split at q <;> exact h _ _ q
theorem seqE_mono {ev : EV} {st : Sto} {k k' : Bool → List D → Prop} (h : ∀ b xs, k b xs → k' b xs) (q : seqE ev st k) : seqE ev st k' := by
  unfold seqE at q ⊢
  split at q <;> first | exact h _ _ q | (split at q <;> first | exact h _ _ q | exact q.elim) | exact q.elim
theorem truE_mono {ev : EV} {st : Sto} {k k' : Bool → Prop} (h : ∀ b, k b → k' b) (q : truE ev st k) : truE ev st k' := by
  unfold truE at q ⊢
  split at q <;> first | exact h _ q | exact ⟨q.1, h _ q.2⟩ | exact seqE_mono (fun _ _ => h _) q
theorem dE_mono {ev : EV} {k k' : D → Prop} (h : ∀ x, k x → k' x) (q : dE ev k) : dE ev k' := by
  unfold dE at q ⊢
  split at q <;> first | exact h _ q | exact q.elim
theorem allD_mono : ∀ {evs : List EV} {k k' : List D → Prop}, (∀ x, k x → k' x) → allD evs k → allD evs k'
  | [], _, _, h, q => h _ q
  | .d x :: r, _, _, h, q => allD_mono (evs := r) (fun xs => h (x :: xs)) q
  | .lm _ :: _, _, _, _, q => q.elim
  | .gm _ :: _, _, _, _, q => q.elim
  | .sc _ :: _, _, _, _, q => q.elim
theorem argsK_mono : ∀ {evs : List EV} {p q : Prop}, (p → q) → argsK evs p → argsK evs q
  | [], _, _, h, z => h z
  | .d _ :: r, _, _, h, z => argsK_mono (evs := r) h z
  | .gm _ :: r, _, _, h, z => argsK_mono (evs := r) h z
  | .sc _ :: r, _, _, h, z => argsK_mono (evs := r) h z
  | .lm _ :: _, _, _, _, z => z.elim
theorem boolsE_mono : ∀ {xs : List D} {k k' : List Bool → Prop}, (∀ x, k x → k' x) → boolsE xs k → boolsE xs k'
  | [], _, _, h, q => h _ q
  | .bool b :: r, _, _, h, q => boolsE_mono (xs := r) (fun xs => h (b :: xs)) q
  | .none :: _, _, _, _, q => q.elim
  | .int _ :: _, _, _, _, q => q.elim
  | .str _ :: _, _, _, _, q => q.elim
  | .list _ :: _, _, _, _, q => q.elim
  | .tuple _ :: _, _, _, _, q => q.elim
  | .dict _ :: _, _, _, _, q => q.elim
theorem binK_mono {o : BOp} {x y : EV} {k k' : EV → Prop} (h : ∀ v, k v → k' v) (q : binK o x y k) : binK o x y k' := by
  unfold binK at q ⊢
  split at q <;> first | exact h _ q | exact ⟨q.1, h _ q.2⟩ | exact q.elim
theorem cmpK_mono {o : COp} {x y : EV} {st : Sto} {k k' : Bool → Prop} (h : ∀ v, k v → k' v) (q : cmpK o x y st k) : cmpK o x y st k' := by
  unfold cmpK at q ⊢
  split at q <;> first | exact h _ q | exact ⟨q.1, h _ q.2⟩ | exact ⟨q.1, q.2.1, h _ q.2.2⟩ | exact q.elim
theorem bltK_mono {b : Blt} {kd : Nat} {r : List EV} {st : Sto} {k k' : KE} (h : ∀ v s, k v s → k' v s) (q : bltK b kd r st k) : bltK b kd r st k' := by
  unfold bltK at q ⊢
  split at q <;> first
    | exact h _ _ q
    | exact ⟨q.1, h _ _ q.2⟩
    | exact seqE_mono (fun _ _ => h _ _) q
    | exact seqE_mono (fun _ _ q => ⟨q.1, boolsE_mono (fun _ => h _ _) q.2⟩) q
    | exact seqE_mono (fun _ _ => newL_mono h) q
    | exact q.elim
theorem rngK_mono {r : List EV} {st : Sto} {k k' : List D → Sto → Prop} (h : ∀ v s, k v s → k' v s) (q : rngK r st k) : rngK r st k' := by
  unfold rngK at q ⊢
  split at q <;> first | exact ⟨q.1, h _ _ q.2⟩ | exact q.elim
theorem enmK_mono {r : List EV} {st : Sto} {k k' : List D → Sto → Prop} (h : ∀ v s, k v s → k' v s) (q : enmK r st k) : enmK r st k' := by
  unfold enmK at q ⊢
  split at q <;> first | exact h _ _ q | exact q.elim
theorem zpK_mono {r : List EV} {st : Sto} {k k' : List D → Sto → Prop} (h : ∀ v s, k v s → k' v s) (q : zpK r st k) : zpK r st k' := by
  unfold zpK at q ⊢
  split at q <;> first | exact h _ _ q | exact q.elim
structure SE.Mono (s : SE) : Prop where
  e : ∀ env st k k', (∀ v s, k v s → k' v s) → s.e env st k → s.e env st k'
  t : ∀ env st k k', (∀ v s, k v s → k' v s) → s.t env st k → s.t env st k'
  l : ∀ env st k k', (∀ v s, k v s → k' v s) → s.l env st k → s.l env st k'
  i : ∀ env st k k', (∀ v s, k v s → k' v s) → s.i env st k → s.i env st k'
  a : ∀ ev env k k', (∀ e, k e → k' e) → s.a ev env k → s.a ev env k'
  al : ∀ xs env k k', (∀ e, k e → k' e) → s.al xs env k → s.al xs env k'
  o : ∀ env st k k', (∀ v s, k v s → k' v s) → s.o env st k → s.o env st k'
abbrev MonoE (f : En → Sto → KE → Prop) : Prop := ∀ env st k k', (∀ v s, k v s → k' v s) → f env st k → f env st k'
theorem ofE_mono {f : En → Sto → KE → Prop} (h : MonoE f) : (ofE f).Mono where
  e := h
  t := fun env st k k' q => h env st _ _ fun v s => truE_mono fun b => q b s
  l := fun _ _ _ _ _ z => z.elim
  i := fun env st k k' q => h env st _ _ fun v s z => by
    split at z <;> first | exact q _ _ z | exact z.elim
  a := fun _ _ _ _ _ z => z.elim
  al := fun _ _ _ _ _ z => z.elim
  o := fun env st k k' q => h env st _ _ fun v s z => by
    split at z <;> first | exact q _ _ z | exact z.elim
theorem ofB_mono {f : En → Sto → (Bool → Sto → Prop) → Prop} (h : ∀ env st k k', (∀ v s, k v s → k' v s) → f env st k → f env st k') : (ofB f).Mono where
  e := fun env st k k' q => h env st _ _ fun b s => q _ s
  t := h
  l := fun _ _ _ _ _ z => z.elim
  i := fun _ _ _ _ _ z => z.elim
  a := fun _ _ _ _ _ z => z.elim
  al := fun _ _ _ _ _ z => z.elim
  o := fun _ _ _ _ _ z => z.elim
theorem ofI_mono {f : En → Sto → (List D → Sto → Prop) → Prop} (h : ∀ env st k k', (∀ v s, k v s → k' v s) → f env st k → f env st k') : (ofI f).Mono where
  e := fun _ _ _ _ _ z => z.elim
  t := fun _ _ _ _ _ z => z.elim
  l := fun _ _ _ _ _ z => z.elim
  i := h
  a := fun _ _ _ _ _ z => z.elim
  al := fun _ _ _ _ _ z => z.elim
  o := fun _ _ _ _ _ z => z.elim
theorem loopC_mono {tg : EV → En → (En → Prop) → Prop} {c : En → Sto → (Bool → Sto → Prop) → Prop} {e : En → Sto → KE → Prop} {env : En}
    (ht : ∀ ev env k k', (∀ e, k e → k' e) → tg ev env k → tg ev env k') (hc : ∀ env st k k', (∀ v s, k v s → k' v s) → c env st k → c env st k') (he : MonoE e) {k k' : List D → Sto → Prop} (h : ∀ v s, k v s → k' v s) :
    ∀ (xs : List D) (st : Sto) (acc : List D), loopC tg c e env xs st acc k → loopC tg c e env xs st acc k'
  | [], st, acc, q => h _ _ q
  | x :: r, st, acc, q => ht _ _ _ _ (fun env' => hc _ _ _ _ fun b st1 z => by
      cases b with
      | true =>
        refine brT ?_; have z := brT' z
        exact he _ _ _ _ (fun ev st2 => dE_mono fun y => loopC_mono ht hc he h r st2 _) z
      | false =>
        refine brF ?_; have z := brF' z
        exact loopC_mono ht hc he h r st1 _ z) q
theorem sem_mono {tb : Tb} (ht : tb.Mono) : ∀ ie : IE, (sem tb ie).Mono
  | .cst d => ofE_mono fun _ _ _ _ h q => h _ _ q
  | .var i => by
    have m := ofE_mono (f := fun env st k => match look env i with
      | some ev => k ev st
      | none => False) fun _ _ _ _ h q => by
      dsimp only at q ⊢
      split at q <;> first | exact h _ _ q | exact q.elim
    exact ⟨m.e, m.t, m.l, m.i, fun _ _ _ _ h q => h _ q, m.al, m.o⟩
  | .glo n => ofE_mono fun _ _ _ _ h q => by
      split at q <;> first | exact h _ _ q | exact q.elim
  | .bin o a b => ofE_mono fun env st k k' h => (sem_mono ht a).e _ _ _ _ fun x st => (sem_mono ht b).e _ _ _ _ fun y st => binK_mono fun z => h z st
  | .neg a => ofE_mono fun env st k k' h => (sem_mono ht a).e _ _ _ _ fun x st q => by
      split at q <;> first | exact h _ _ q | exact q.elim
  | .nt a => by
    have m := ofE_mono (f := fun env st k => (sem tb a).e env st fun x st => truE x st fun b => k (.d (.bool (!b))) st) fun env st k k' h => (sem_mono ht a).e _ _ _ _ fun x st => truE_mono fun b => h _ _
    exact ⟨m.e, fun env st k k' h => (sem_mono ht a).t _ _ _ _ fun b st => h _ _, m.l, m.i, m.a, m.al, m.o⟩
  | .cmp o a b => ofB_mono fun env st k k' h => (sem_mono ht a).e _ _ _ _ fun x st => (sem_mono ht b).e _ _ _ _ fun y st => cmpK_mono fun z => h z st
  | .cmp2 o p a b c => ofB_mono fun env st k k' h => (sem_mono ht a).e _ _ _ _ fun x st => (sem_mono ht b).e _ _ _ _ fun y st => cmpK_mono fun z q => by
      cases z with
      | true =>
        refine brT ?_; have q := brT' q
        exact (sem_mono ht c).e _ _ _ _ (fun w st => cmpK_mono fun z => h z st) q
      | false =>
        refine brF ?_; have q := brF' q
        exact h _ _ q
  | .isN a => ofB_mono fun env st k k' h => (sem_mono ht a).e _ _ _ _ fun x st => dE_mono fun y => h _ _
  | .notN a => ofB_mono fun env st k k' h => (sem_mono ht a).e _ _ _ _ fun x st => dE_mono fun y => h _ _
  | .an a b => by
    have m := ofE_mono (f := fun env st k => (sem tb a).e env st fun x st => match x with
      | .d (.bool c) => brP c ((sem tb b).e env st k) (k (.d (.bool false)) st)
      | _ => False) fun env st k k' h => (sem_mono ht a).e _ _ _ _ fun x st q => by
      split at q <;> first | exact ⟨fun z => (sem_mono ht b).e _ _ _ _ h (q.1 z), fun z => h _ _ (q.2 z)⟩ | exact q.elim
    refine ⟨m.e, fun env st k k' h => (sem_mono ht a).t _ _ _ _ fun x st q => ?_, m.l, m.i, m.a, m.al, m.o⟩
    cases x with
    | true =>
      refine brT ?_; have q := brT' q
      exact (sem_mono ht b).t _ _ _ _ h q
    | false =>
      refine brF ?_; have q := brF' q
      exact h _ _ q
  | .oo a b => by
    have m := ofE_mono (f := fun env st k => (sem tb a).e env st fun x st => match x with
      | .d (.bool c) => brP c (k (.d (.bool true)) st) ((sem tb b).e env st k)
      | _ => False) fun env st k k' h => (sem_mono ht a).e _ _ _ _ fun x st q => by
      split at q <;> first | exact ⟨fun z => h _ _ (q.1 z), fun z => (sem_mono ht b).e _ _ _ _ h (q.2 z)⟩ | exact q.elim
    refine ⟨m.e, fun env st k k' h => (sem_mono ht a).t _ _ _ _ fun x st q => ?_, m.l, m.i, m.a, m.al, m.o⟩
    cases x with
    | true =>
      refine brT ?_; have q := brT' q
      exact h _ _ q
    | false =>
      refine brF ?_; have q := brF' q
      exact (sem_mono ht b).t _ _ _ _ h q
  | .ife c a b => ofE_mono fun env st k k' h => (sem_mono ht c).t _ _ _ _ fun x st q => by
      cases x with
      | true =>
        refine brT ?_; have q := brT' q
        exact (sem_mono ht a).e _ _ _ _ h q
      | false =>
        refine brF ?_; have q := brF' q
        exact (sem_mono ht b).e _ _ _ _ h q
  | .nil => ⟨fun _ _ _ _ _ z => z.elim, fun _ _ _ _ h q => h _ _ q, fun _ _ _ _ h q => h _ _ q, fun _ _ _ _ _ z => z.elim, fun _ _ _ _ _ z => z.elim, fun _ _ _ _ h q => ⟨q.1, h _ q.2⟩, fun _ _ _ _ h q => h _ _ q⟩
  | .cons a r => ⟨fun _ _ _ _ _ z => z.elim, fun _ _ _ _ _ z => z.elim, fun env st k k' h => (sem_mono ht a).e _ _ _ _ fun x st => (sem_mono ht r).l _ _ _ _ fun xs st => h _ _, fun _ _ _ _ _ z => z.elim, fun _ _ _ _ _ z => z.elim,
      fun xs env k k' h q => by
        cases xs with
        | nil => exact q.elim
        | cons x xs => exact (sem_mono ht a).a _ _ _ _ (fun env => (sem_mono ht r).al _ _ _ _ h) q,
      fun _ _ _ _ _ z => z.elim⟩
  | .tup r => by
    have m := ofE_mono (f := fun env st k => (sem tb r).l env st fun xs st => allD xs fun ys => k (.d (.tuple ys)) st) fun env st k k' h => (sem_mono ht r).l _ _ _ _ fun xs st => allD_mono fun ys => h _ _
    refine ⟨m.e, m.t, m.l, m.i, fun ev env k k' h q => ?_, m.al, m.o⟩
    dsimp only [sem] at q ⊢
    split at q <;> first | exact (sem_mono ht r).al _ _ _ _ h q | exact q.elim
  | .lst kd r => ofE_mono fun env st k k' h => (sem_mono ht r).l _ _ _ _ fun xs st => allD_mono fun ys => newL_mono h
  | .ixc a n => ofE_mono fun env st k k' h => (sem_mono ht a).e _ _ _ _ fun x st => seqE_mono fun b xs q => by
      split at q <;> first | exact h _ _ q | exact q.elim
  | .ix a i => ofE_mono fun env st k k' h => (sem_mono ht a).e _ _ _ _ fun x st => (sem_mono ht i).e _ _ _ _ fun j st q => by
      split at q <;> first
        | exact seqE_mono (fun b xs q => by
            split at q <;> first | exact h _ _ q | exact q.elim) q
        | exact q.elim
  | .sl kd a lo hi => ofE_mono fun env st k k' h => (sem_mono ht a).e _ _ _ _ fun x st => (sem_mono ht lo).o _ _ _ _ fun l st => (sem_mono ht hi).o _ _ _ _ fun u st q => by
      split at q <;> first | exact h _ _ q | exact ⟨q.1, h _ _ q.2⟩ | exact seqE_mono (fun b xs => newL_mono h) q
  | .call n r => ofE_mono fun env st k k' h => (sem_mono ht r).l _ _ _ _ fun xs st => argsK_mono (ht n _ _ _ _ fun v g => h _ _)
  | .blt b kd r => ofE_mono fun env st k k' h => (sem_mono ht r).l _ _ _ _ fun xs st => bltK_mono h
  | .cmpr kd own tg it c e => ofE_mono fun env st k k' h => (sem_mono ht it).i _ _ _ _ fun xs st q => ⟨q.1, loopC_mono (sem_mono ht tg).a (sem_mono ht c).t (sem_mono ht e).e (fun ys st => newL_mono h) xs st [] q.2⟩
  | .rng r => ofI_mono fun env st k k' h => (sem_mono ht r).l _ _ _ _ fun xs st => rngK_mono h
  | .enm r => ofI_mono fun env st k k' h => (sem_mono ht r).l _ _ _ _ fun xs st => enmK_mono h
  | .zp r => ofI_mono fun env st k k' h => (sem_mono ht r).l _ _ _ _ fun xs st => zpK_mono h
structure KS.Le (K K' : KS) : Prop where
  nx : ∀ e s, K.nx e s → K'.nx e s
  rt : ∀ e s, K.rt e s → K'.rt e s
  bk : ∀ e s, K.bk e s → K'.bk e s
  ct : ∀ e s, K.ct e s → K'.ct e s
theorem setS_mono {ev : EV} {st : Sto} {f : List D → (List D → Prop) → Prop} {k k' : Sto → Prop} (hf : ∀ xs k k', (∀ ys, k ys → k' ys) → f xs k → f xs k') (h : ∀ s, k s → k' s) (q : setS ev st f k) : setS ev st f k' := by
  unfold setS at q ⊢
  split at q <;> first | (split at q <;> first | exact hf _ _ _ (fun ys => h _) q | exact q.elim) | exact q.elim
theorem augK_mono {o : BOp} {x y : EV} {k k' : EV → Prop} (h : ∀ z, k z → k' z) (q : augK o x y k) : augK o x y k' := ⟨q.1, q.2.1, binK_mono h q.2.2⟩
theorem ixK_mono {j : EV} {n : Nat} {k k' : Nat → Prop} (h : ∀ m, k m → k' m) (q : ixK j n k) : ixK j n k' := by
  unfold ixK at q ⊢
  split at q <;> first | (split at q <;> first | exact h _ q | exact q.elim) | exact q.elim
theorem loopF_mono {tg : EV → En → (En → Prop) → Prop} {b : En → Sto → KS → Prop} (ht : ∀ ev env k k', (∀ e, k e → k' e) → tg ev env k → tg ev env k') (hb : ∀ env st K K', K.Le K' → b env st K → b env st K') {K K' : KS} (h : K.Le K') :
    ∀ (xs : List D) (env : En) (st : Sto), loopF tg b xs env st K → loopF tg b xs env st K'
  | [], env, st, q => h.nx _ _ q
  | x :: r, env, st, q => ht _ _ _ _ (fun env' => hb _ _ { nx := fun e s => loopF tg b r e s K, rt := K.rt, bk := K.nx, ct := fun e s => loopF tg b r e s K } { nx := fun e s => loopF tg b r e s K', rt := K'.rt, bk := K'.nx, ct := fun e s => loopF tg b r e s K' } ⟨fun e s => loopF_mono ht hb h r e s, h.rt, h.nx, fun e s => loopF_mono ht hb h r e s⟩) q
theorem semS_mono {tb : Tb} (ht : tb.Mono) : ∀ (b : IS) (env : En) (st : Sto) (K K' : KS), K.Le K' → semS tb b env st K → semS tb b env st K'
  | .skip, env, st, K, K', h, q => h.nx _ _ q
  | .seq a b, env, st, K, K', h, q => semS_mono ht a env st { K with nx := fun env st => semS tb b env st K } { K' with nx := fun env st => semS tb b env st K' } ⟨fun e s => semS_mono ht b e s K K' h, h.rt, h.bk, h.ct⟩ q
  | .asg t e, env, st, K, K', h, q => (sem_mono ht e).e _ _ _ _ (fun ev st => (sem_mono ht t).a _ _ _ _ fun env => h.nx _ _) q
  | .aug o i e, env, st, K, K', h, q => by
    unfold semS at q ⊢
    split at q
    · exact (sem_mono ht e).e _ _ _ _ (fun y st => augK_mono fun z => h.nx _ _) q
    · exact q.elim
  | .augS o a i e, env, st, K, K', h, q => (sem_mono ht a).e _ _ _ _ (fun x st => (sem_mono ht i).e _ _ _ _ fun j st => seqE_mono fun b xs q => ⟨q.1, ixK_mono (fun m q => by
      split at q
      · exact (sem_mono ht e).e _ _ _ _ (fun y st => augK_mono fun z => dE_mono fun w => setS_mono (fun xs k k' h => ixK_mono fun m => h _) fun st => h.nx _ _) q
      · exact q.elim) q.2⟩) q
  | .setI a i e, env, st, K, K', h, q => (sem_mono ht e).e _ _ _ _ (fun y st => (sem_mono ht a).e _ _ _ _ fun x st => (sem_mono ht i).e _ _ _ _ fun j st => dE_mono fun w => setS_mono (fun xs k k' h => ixK_mono fun m => h _) fun st => h.nx _ _) q
  | .app a e, env, st, K, K', h, q => (sem_mono ht a).e _ _ _ _ (fun x st q => ⟨q.1, (sem_mono ht e).e _ _ _ _ (fun y st => dE_mono fun w => setS_mono (fun xs k k' h q => ⟨q.1, h _ q.2⟩) fun st => h.nx _ _) q.2⟩) q
  | .ext a e, env, st, K, K', h, q => (sem_mono ht a).e _ _ _ _ (fun x st q => ⟨q.1, (sem_mono ht e).e _ _ _ _ (fun y st q => by
      split at q
      · exact setS_mono (fun xs k k' h q => ⟨q.1, h _ q.2⟩) (fun st => h.nx _ _) q
      · exact q.elim) q.2⟩) q
  | .exp e, env, st, K, K', h, q => (sem_mono ht e).e _ _ _ _ (fun _ st => h.nx _ _) q
  | .ifs c a b, env, st, K, K', h, q => (sem_mono ht c).t _ _ _ _ (fun x st q => by
      cases x with
      | true =>
        refine brT ?_; have q := brT' q
        exact semS_mono ht a _ _ _ _ h q
      | false =>
        refine brF ?_; have q := brF' q
        exact semS_mono ht b _ _ _ _ h q) q
  | .whl c b, env, st, K, K', h, q => by
    unfold semS whlK at q ⊢
    obtain ⟨I, h0, hs⟩ := q
    refine ⟨I, h0, fun m env st hI => (sem_mono ht c).t _ _ _ _ (fun x st q => ?_) (hs m env st hI)⟩
    cases x with
    | true =>
      refine brT ?_; have q := brT' q
      exact semS_mono ht b _ _ { nx := fun e s => ∃ m', m' < m ∧ I m' e s, rt := K.rt, bk := K.nx, ct := fun e s => ∃ m', m' < m ∧ I m' e s } _ ⟨fun _ _ z => z, h.rt, h.nx, fun _ _ z => z⟩ q
    | false =>
      refine brF ?_; have q := brF' q
      exact h.nx _ _ q
  | .fr t it b, env, st, K, K', h, q => (sem_mono ht it).i _ _ _ _ (fun xs st => loopF_mono (sem_mono ht t).a (fun env st K K' h => semS_mono ht b env st K K' h) h xs env st) q
  | .ret e, env, st, K, K', h, q => (sem_mono ht e).e _ _ _ _ h.rt q
  | .ret0, env, st, K, K', h, q => h.rt _ _ q
  | .brk, env, st, K, K', h, q => h.bk _ _ q
  | .cont, env, st, K, K', h, q => h.ct _ _ q
  | .never, _, _, _, _, _, q => q.elim
  | .freeze i, env, st, K, K', h, q => by
    unfold semS at q ⊢
    split at q <;> first | (split at q <;> first | exact h.nx _ _ q | exact q.elim) | exact q.elim
theorem outE_mono {ev : EV} {st : Sto} {k k' : EV → Prop} (h : ∀ v, k v → k' v) (q : outE ev st k) : outE ev st k' := by
  unfold outE at q ⊢
  split at q <;> first | exact h _ q | (split at q <;> first | exact h _ q | exact q.elim) | exact q.elim
theorem semF_mono {tb : Tb} (ht : tb.Mono) (n : Nat) (b : IS) : SemMono (semF tb n b) := fun vs g Q Q' h q =>
  semS_mono ht b _ _ { nx := fun _ st => Q (.d .none) st.g, rt := fun ev st => outE ev st fun v => Q v st.g, bk := fun _ _ => False, ct := fun _ _ => False } { nx := fun _ st => Q' (.d .none) st.g, rt := fun ev st => outE ev st fun v => Q' v st.g, bk := fun _ _ => False, ct := fun _ _ => False }
    ⟨fun _ st => h _ _, fun ev st => outE_mono fun v => h v _, fun _ _ z => z, fun _ _ z => z⟩ q
/-- a table of monotone meanings -/
theorem Tb.mono_of {tb : Tb} (h : ∀ q ∈ tb.fn, SemMono q.2.2) : tb.Mono := fun k => by
  unfold Tb.sem
  split
  · rename_i q e
    exact h q (List.mem_of_getElem? e)
  · exact fun _ _ _ _ _ z => z.elim
end VI

/-! VI3: how data and lists that may change stand in the abstract heap. -/
namespace VI
open PySem PySem.Spec PyProof.Rows L2
def KL (K : PySem.W.Frag) (a : Addr) (xs : List V) : Prop := ∃ (o : Obj) (its : Array Value) (n : Nat), K.lookup a = some o ∧ o.cls = .type "list" ∧ o.dict = none ∧ o.data = .seq its n ∧ its.size ≤ sizeLine ∧ Vals xs its.toList
def KT (K : PySem.W.Frag) (a : Addr) (xs : List V) : Prop := ∃ (o : Obj) (its : Array Value) (n : Nat), K.lookup a = some o ∧ o.cls = .type "tuple" ∧ o.data = .seq its n ∧ its.size ≤ sizeLine ∧ Vals xs its.toList
def FzL (K : PySem.W.Frag) (H : Hp) (M : Addr → Prop) (a : Addr) (xs : List V) : Prop := (Rd H a (.lst xs) ∧ ¬ M a) ∨ KL K a xs
def FzT (K : PySem.W.Frag) (H : Hp) (M : Addr → Prop) (a : Addr) (xs : List V) : Prop := (Rd H a (.tup xs) ∧ ¬ M a) ∨ KT K a xs
theorem FzL.sq {K : PySem.W.Frag} {H : Hp} {M : Addr → Prop} {a : Addr} {xs : List V} (h : FzL K H M a xs) : SqL K H a xs := h.elim (fun z => .inl z.1) .inr
theorem FzT.sq {K : PySem.W.Frag} {H : Hp} {M : Addr → Prop} {a : Addr} {xs : List V} (h : FzT K H M a xs) : SqT K H a xs := h.elim (fun z => .inl z.1) .inr
mutual
inductive Rep (K : PySem.W.Frag) (H : Hp) (M : Addr → Prop) : V → D → Prop
  | non : Rep K H M .non .none
  | bl (b : Bool) : Rep K H M (.bl b) (.bool b)
  | int (i : Int) : Rep K H M (.int i) (.int i)
  | str (x : Str) : Rep K H M (.str x) (.str x)
  | lst {a : Addr} {xs : List V} {ds : List D} : H a = some (.lst xs) → ¬ M a → Reps K H M xs ds → Rep K H M (.ref a) (.list ds)
  | tup {a : Addr} {xs : List V} {ds : List D} : FzT K H M a xs → Reps K H M xs ds → Rep K H M (.ref a) (.tuple ds)
inductive Reps (K : PySem.W.Frag) (H : Hp) (M : Addr → Prop) : List V → List D → Prop
  | nil : Reps K H M [] []
  | cons {v : V} {vs : List V} {d : D} {ds : List D} : Rep K H M v d → Reps K H M vs ds → Reps K H M (v :: vs) (d :: ds)
end
mutual
theorem Rep.conv {K : PySem.W.Frag} {H H' : Hp} {M M' : Addr → Prop} (c : ∀ a o, H a = some o → ¬ M a → H' a = some o ∧ ¬ M' a) : ∀ {v : V} {d : D}, Rep K H M v d → Rep K H' M' v d
  | _, _, .non => .non
  | _, _, .bl b => .bl b
  | _, _, .int i => .int i
  | _, _, .str x => .str x
  | _, _, .lst z m r => .lst (c _ _ z m).1 (c _ _ z m).2 (Reps.conv c r)
  | _, _, .tup f r => .tup (f.elim (fun ⟨z, m⟩ => .inl ⟨z.elim (fun z => .inl (c _ _ z m).1) fun ⟨o, z⟩ => .inr ⟨o, (c _ _ z m).1⟩, z.elim (fun z => (c _ _ z m).2) fun ⟨o, z⟩ => (c _ _ z m).2⟩) .inr) (Reps.conv c r)
theorem Reps.conv {K : PySem.W.Frag} {H H' : Hp} {M M' : Addr → Prop} (c : ∀ a o, H a = some o → ¬ M a → H' a = some o ∧ ¬ M' a) : ∀ {vs : List V} {ds : List D}, Reps K H M vs ds → Reps K H' M' vs ds
  | _, _, .nil => .nil
  | _, _, .cons r t => .cons (Rep.conv c r) (Reps.conv c t)
end
mutual
theorem Rep.dp {K : PySem.W.Frag} {H : Hp} {M : Addr → Prop} : ∀ {v : V} {d : D}, Rep K H M v d → Dp K H v d
  | _, _, .non => .non
  | _, _, .bl b => .bl b
  | _, _, .int i => .int i
  | _, _, .str x => .str x
  | _, _, .lst f _ r => .lst (SqL.of f) (Reps.dp r)
  | _, _, .tup f r => .tup f.sq (Reps.dp r)
theorem Reps.dp {K : PySem.W.Frag} {H : Hp} {M : Addr → Prop} : ∀ {vs : List V} {ds : List D}, Reps K H M vs ds → DpAll K H vs ds
  | _, _, .nil => .nil
  | _, _, .cons r t => .cons (Rep.dp r) (Reps.dp t)
end
section
variable {K : PySem.W.Frag} {H : Hp} {M : Addr → Prop}
theorem Reps.length : ∀ {vs : List V} {ds : List D}, Reps K H M vs ds → vs.length = ds.length
  | _, _, .nil => rfl
  | _, _, .cons _ t => by rw [List.length_cons, List.length_cons, Reps.length t]
theorem Reps.get : ∀ {vs : List V} {ds : List D} {i : Nat} {d : D}, Reps K H M vs ds → ds[i]? = some d → ∃ v, vs[i]? = some v ∧ Rep K H M v d
  | _, _, _, _, .nil, e => by simp at e
  | _, _, 0, _, .cons r _, e => by simp at e; subst e; exact ⟨_, rfl, r⟩
  | _, _, i + 1, _, .cons _ t, e => by
    obtain ⟨v, h1, h2⟩ := Reps.get (i := i) t (by simpa using e)
    exact ⟨v, by simpa using h1, h2⟩
theorem Reps.get' {vs : List V} {ds : List D} {i : Nat} {v : V} (r : Reps K H M vs ds) (e : vs[i]? = some v) : ∃ d, ds[i]? = some d ∧ Rep K H M v d := by
  have hi : i < vs.length := (List.getElem?_eq_some_iff.mp e).1
  have hd : ds[i]? = some (ds[i]'(by rw [← r.length]; exact hi)) := List.getElem?_eq_getElem _
  obtain ⟨w, h1, h2⟩ := r.get hd
  rw [e] at h1
  cases h1
  exact ⟨_, hd, h2⟩
theorem Reps.set {v : V} {d : D} (q : Rep K H M v d) : ∀ {vs : List V} {ds : List D} (i : Nat), Reps K H M vs ds → Reps K H M (vs.set i v) (ds.set i d)
  | _, _, _, .nil => .nil
  | _, _, 0, .cons _ t => .cons q t
  | _, _, i + 1, .cons r t => .cons r (Reps.set q i t)
theorem Reps.append : ∀ {vs ws : List V} {ds es : List D}, Reps K H M vs ds → Reps K H M ws es → Reps K H M (vs ++ ws) (ds ++ es)
  | _, _, _, _, .nil, s => s
  | _, _, _, _, .cons r t, s => .cons r (Reps.append t s)
theorem Reps.drop : ∀ {vs : List V} {ds : List D} (n : Nat), Reps K H M vs ds → Reps K H M (vs.drop n) (ds.drop n)
  | _, _, 0, r => r
  | _, _, _ + 1, .nil => .nil
  | _, _, n + 1, .cons _ t => Reps.drop n t
theorem Reps.take : ∀ {vs : List V} {ds : List D} (n : Nat), Reps K H M vs ds → Reps K H M (vs.take n) (ds.take n)
  | _, _, 0, _ => .nil
  | _, _, _ + 1, .nil => .nil
  | _, _, n + 1, .cons r t => .cons r (Reps.take n t)
theorem Reps.cut {vs : List V} {ds : List D} (r : Reps K H M vs ds) (lo hi : Option Int) : Reps K H M (cutV vs lo hi) (cutD ds lo hi) := by
  unfold cutV cutD
  rw [r.length]
  exact (r.drop _).take _
theorem Reps.rep {vs : List V} {ds : List D} (r : Reps K H M vs ds) : ∀ n : Nat, Reps K H M (List.replicate n vs).flatten (List.replicate n ds).flatten
  | 0 => .nil
  | n + 1 => by
    rw [List.replicate_succ, List.replicate_succ, List.flatten_cons, List.flatten_cons]
    exact r.append (Reps.rep r n)
theorem Reps.of_get {vs : List V} {ds : List D} (hl : vs.length = ds.length) (h : ∀ (i : Nat) v d, vs[i]? = some v → ds[i]? = some d → Rep K H M v d) : Reps K H M vs ds := by
  induction vs generalizing ds with
  | nil =>
    cases ds with
    | nil => exact .nil
    | cons _ _ => simp at hl
  | cons v vs ih =>
    cases ds with
    | nil => simp at hl
    | cons d ds => exact .cons (h 0 v d rfl rfl) (ih (by simpa using hl) fun i w e h1 h2 => h (i + 1) w e (by simpa using h1) (by simpa using h2))
end
/-! ### the world -/
structure Wd where
  mu : List Addr
  la : List Addr
  F : Addr → Prop
def Wd.M (w : Wd) (st : Sto) (a : Addr) : Prop := a ∈ w.mu ∨ (∃ (n : Nat) (xs : List D), w.la[n]? = some a ∧ st.l[n]? = some (some xs)) ∨ w.F a
structure WOk (K : PySem.W.Frag) (H : Hp) (w : Wd) (st : Sto) : Prop where
  lg : w.mu.length = st.g.length
  ll : w.la.length = st.l.length
  g : ∀ (n : Nat) (xs : List D), st.g[n]? = some xs → ∃ a vs, w.mu[n]? = some a ∧ H a = some (.lst vs) ∧ Reps K H (w.M st) vs xs
  l : ∀ (n : Nat) (xs : List D), st.l[n]? = some (some xs) → ∃ a vs, w.la[n]? = some a ∧ H a = some (.lst vs) ∧ Reps K H (w.M st) vs xs
  fz : ∀ (n : Nat) (a : Addr), st.l[n]? = some none → w.la[n]? = some a → ∃ o, H a = some (.lst o)
  nd : (w.mu ++ w.la).Nodup
  fF : ∀ a, w.F a → (∃ o, H a = some o) ∧ a ∉ w.mu ∧ a ∉ w.la
structure Le (H : Hp) (w : Wd) (st : Sto) (H' : Hp) (w' : Wd) (st' : Sto) : Prop where
  F : w'.F = w.F
  mu : ∃ t, w'.mu = w.mu ++ t
  la : ∃ t, w'.la = w.la ++ t
  fr : ∀ a o, H a = some o → ¬ w.M st a → H' a = some o ∧ ¬ w'.M st' a
  fo : ∀ a, w.F a → H' a = H a
def EVRep (K : PySem.W.Frag) (H : Hp) (w : Wd) (st : Sto) (v : V) : EV → Prop
  | .d x => Rep K H (w.M st) v x
  | .lm n => ∃ a, v = .ref a ∧ w.la[n]? = some a
  | .gm n => ∃ a, v = .ref a ∧ w.mu[n]? = some a
  | .sc ds => ∃ a xs, v = .ref a ∧ FzL K H (w.M st) a xs ∧ Reps K H (w.M st) xs ds
inductive EVReps (K : PySem.W.Frag) (H : Hp) (w : Wd) (st : Sto) : List V → List EV → Prop
  | nil : EVReps K H w st [] []
  | cons {v : V} {vs : List V} {d : EV} {ds : List EV} : EVRep K H w st v d → EVReps K H w st vs ds → EVReps K H w st (v :: vs) (d :: ds)
def EnvRep (K : PySem.W.Frag) (H : Hp) (w : Wd) (st : Sto) (σ : L2.St) (env : En) : Prop := env.length = σ.length ∧ ∀ (i : Nat) (ev : EV), env[i]? = some (some ev) → ∃ v, σ[i]? = some (some v) ∧ EVRep K H w st v ev
theorem pre_get {α : Type} {l l' : List α} {n : Nat} {a : α} (h : ∃ t, l' = l ++ t) (e : l[n]? = some a) : l'[n]? = some a := by
  obtain ⟨t, rfl⟩ := h
  have hi : n < l.length := (List.getElem?_eq_some_iff.mp e).1
  rw [List.getElem?_append_left hi]
  exact e
section
variable {K : PySem.W.Frag} {H H1 H2 : Hp} {w w1 w2 : Wd} {st st1 st2 : Sto}
theorem Le.refl : Le H w st H w st := ⟨rfl, ⟨[], by simp⟩, ⟨[], by simp⟩, fun _ _ h m => ⟨h, m⟩, fun _ _ => rfl⟩
theorem Le.trans (a : Le H w st H1 w1 st1) (b : Le H1 w1 st1 H2 w2 st2) : Le H w st H2 w2 st2 where
  F := b.F.trans a.F
  mu := by
    obtain ⟨t, e⟩ := a.mu
    obtain ⟨u, e'⟩ := b.mu
    exact ⟨t ++ u, by rw [e', e, List.append_assoc]⟩
  la := by
    obtain ⟨t, e⟩ := a.la
    obtain ⟨u, e'⟩ := b.la
    exact ⟨t ++ u, by rw [e', e, List.append_assoc]⟩
  fr := fun c o h m => let z := a.fr c o h m; b.fr c o z.1 z.2
  fo := fun c h => (b.fo c (by rw [a.F]; exact h)).trans (a.fo c h)
theorem Rep.le {v : V} {d : D} (r : Rep K H (w.M st) v d) (l : Le H w st H1 w1 st1) : Rep K H1 (w1.M st1) v d := r.conv l.fr
theorem Reps.le {v : List V} {d : List D} (r : Reps K H (w.M st) v d) (l : Le H w st H1 w1 st1) : Reps K H1 (w1.M st1) v d := r.conv l.fr
theorem FzL.conv {K : PySem.W.Frag} {H H' : Hp} {M M' : Addr → Prop} (c : ∀ a o, H a = some o → ¬ M a → H' a = some o ∧ ¬ M' a) {a : Addr} {xs : List V} (f : FzL K H M a xs) : FzL K H' M' a xs :=
  f.elim (fun ⟨z, m⟩ => .inl ⟨z.elim (fun z => .inl (c _ _ z m).1) fun ⟨o, z⟩ => .inr ⟨o, (c _ _ z m).1⟩, z.elim (fun z => (c _ _ z m).2) fun ⟨o, z⟩ => (c _ _ z m).2⟩) .inr
theorem EVRep.le {v : V} {ev : EV} (r : EVRep K H w st v ev) (l : Le H w st H1 w1 st1) : EVRep K H1 w1 st1 v ev := by
  cases ev with
  | d x => exact Rep.le r l
  | lm n =>
    obtain ⟨a, e, h⟩ := r
    exact ⟨a, e, pre_get l.la h⟩
  | gm n =>
    obtain ⟨a, e, h⟩ := r
    exact ⟨a, e, pre_get l.mu h⟩
  | sc ds =>
    obtain ⟨a, xs, e, f, q⟩ := r
    exact ⟨a, xs, e, f.conv l.fr, Reps.le q l⟩
theorem EVReps.le {vs : List V} {evs : List EV} (r : EVReps K H w st vs evs) (l : Le H w st H1 w1 st1) : EVReps K H1 w1 st1 vs evs := by
  induction r with
  | nil => exact .nil
  | cons a _ ih => exact .cons (EVRep.le a l) ih
theorem EnvRep.le {σ : L2.St} {env : En} (r : EnvRep K H w st σ env) (l : Le H w st H1 w1 st1) : EnvRep K H1 w1 st1 σ env :=
  ⟨r.1, fun i ev h => let ⟨v, e, q⟩ := r.2 i ev h; ⟨v, e, q.le l⟩⟩
theorem look_get : ∀ {env : En} {i : Nat} {ev : EV}, look env i = some ev → env[i]? = some (some ev)
  | [], _, _, h => by cases h
  | a :: _, 0, _, h => by
    have h' : a = some _ := h
    rw [h']; rfl
  | _ :: r, i + 1, _, h => by
    rw [List.getElem?_cons_succ]
    exact look_get (env := r) h
theorem EnvRep.look {σ : L2.St} {env : En} (r : EnvRep K H w st σ env) {i : Nat} {ev : EV} (h : look env i = some ev) : ∃ v, σ[i]? = some (some v) ∧ EVRep K H w st v ev := r.2 i ev (look_get h)
theorem put_eq : ∀ (env : En) (i : Nat) (ev : EV), put env i ev = env.set i (some ev)
  | [], _, _ => rfl
  | _ :: _, 0, _ => rfl
  | a :: r, i + 1, ev => by
    show a :: put r i ev = a :: r.set i (some ev)
    rw [put_eq r i ev]
theorem EnvRep.put {σ : L2.St} {env : En} (r : EnvRep K H w st σ env) {v : V} {ev : EV} (q : EVRep K H w st v ev) (i : Nat) : EnvRep K H w st (σ.set i (some v)) (put env i ev) := by
  rw [put_eq]
  refine ⟨by rw [List.length_set, List.length_set]; exact r.1, fun j ev' h => ?_⟩
  by_cases hj : i = j
  · subst hj
    have hi : i < env.length := by
      have := (List.getElem?_eq_some_iff.mp h).1
      rwa [List.length_set] at this
    rw [List.getElem?_set_self hi] at h
    cases h
    exact ⟨v, List.getElem?_set_self (by rw [← r.1]; exact hi), q⟩
  · rw [List.getElem?_set_ne hj] at h
    rw [List.getElem?_set_ne hj]
    exact r.2 j ev' h
theorem EnvRep.wipe {σ : L2.St} {env : En} (r : EnvRep K H w st σ env) : ∀ own : List Nat, EnvRep K H w st (L2.wipe σ own) (wipeE env own)
  | [] => r
  | v :: vs => by
    have ih := EnvRep.wipe r vs
    unfold L2.wipe wipeE
    refine ⟨by rw [List.length_set, List.length_set]; exact ih.1, fun j ev h => ?_⟩
    by_cases hj : v = j
    · subst hj
      have hi : v < (wipeE env vs).length := by
        have := (List.getElem?_eq_some_iff.mp h).1
        rwa [List.length_set] at this
      rw [List.getElem?_set_self hi] at h
      cases h
    · rw [List.getElem?_set_ne hj] at h
      rw [List.getElem?_set_ne hj]
      exact ih.2 j ev h
/-- a fresh address is none that may change -/
theorem WOk.notM (ok : WOk K H w st) {p : Addr} (n : H p = none) : ¬ w.M st p ∧ p ∉ w.mu ∧ p ∉ w.la := by
  have h1 : p ∉ w.mu := fun h => by
    obtain ⟨i, hi⟩ := List.mem_iff_getElem?.mp h
    have hl : i < st.g.length := by rw [← ok.lg]; exact (List.getElem?_eq_some_iff.mp hi).1
    obtain ⟨a, vs, e, q, _⟩ := ok.g i _ (List.getElem?_eq_getElem hl)
    rw [hi] at e
    cases e
    rw [n] at q
    cases q
  have h2 : p ∉ w.la := fun h => by
    obtain ⟨i, hi⟩ := List.mem_iff_getElem?.mp h
    have hl : i < st.l.length := by rw [← ok.ll]; exact (List.getElem?_eq_some_iff.mp hi).1
    have hs : st.l[i]? = some st.l[i] := List.getElem?_eq_getElem hl
    cases q : st.l[i] with
    | none =>
      rw [q] at hs
      obtain ⟨o, z⟩ := ok.fz i p hs hi
      rw [n] at z
      cases z
    | some xs =>
      rw [q] at hs
      obtain ⟨a, vs, e, z, _⟩ := ok.l i xs hs
      rw [hi] at e
      cases e
      rw [n] at z
      cases z
  refine ⟨fun h => ?_, h1, h2⟩
  rcases h with h | ⟨i, xs, h, _⟩ | h
  · exact h1 h
  · exact h2 (List.mem_iff_getElem?.mpr ⟨i, h⟩)
  · obtain ⟨⟨o, z⟩, _⟩ := ok.fF p h
    rw [n] at z
    cases z
theorem Le.fresh {p : Addr} {o : HO} (n : H p = none) (ok : WOk K H w st) : Le H w st (upd H p o) w st :=
  ⟨rfl, ⟨[], by simp⟩, ⟨[], by simp⟩, fun a u h m => ⟨by rw [upd_ne (ne_of_none h n)]; exact h, m⟩, fun a h => by
    obtain ⟨⟨u, z⟩, _⟩ := ok.fF a h
    rw [upd_ne (ne_of_none z n)]⟩
theorem WOk.fresh {p : Addr} {o : HO} (n : H p = none) (ok : WOk K H w st) : WOk K (upd H p o) w st := by
  have le := Le.fresh (o := o) n ok
  refine ⟨ok.lg, ok.ll, fun i xs h => ?_, fun i xs h => ?_, fun i a h e => ?_, ok.nd, fun a h => ?_⟩
  · obtain ⟨a, vs, e, z, r⟩ := ok.g i xs h
    exact ⟨a, vs, e, by rw [upd_ne (ne_of_none z n)]; exact z, r.le le⟩
  · obtain ⟨a, vs, e, z, r⟩ := ok.l i xs h
    exact ⟨a, vs, e, by rw [upd_ne (ne_of_none z n)]; exact z, r.le le⟩
  · obtain ⟨u, z⟩ := ok.fz i a h e
    exact ⟨u, by rw [upd_ne (ne_of_none z n)]; exact z⟩
  · obtain ⟨⟨u, z⟩, q⟩ := ok.fF a h
    exact ⟨⟨u, by rw [upd_ne (ne_of_none z n)]; exact z⟩, q⟩
/-- a new tuple, a new list that stays -/
theorem new_tup {p : Addr} {vs : List V} {xs : List D} (n : H p = none) (ok : WOk K H w st) (r : Reps K H (w.M st) vs xs) : Le H w st (upd H p (.tup vs)) w st ∧ WOk K (upd H p (.tup vs)) w st ∧ Rep K (upd H p (.tup vs)) (w.M st) (.ref p) (.tuple xs) :=
  ⟨Le.fresh n ok, ok.fresh n, .tup (.inl ⟨.inl upd_same, (ok.notM n).1⟩) (r.le (Le.fresh n ok))⟩
theorem new_lst0 {p : Addr} {vs : List V} {xs : List D} (n : H p = none) (ok : WOk K H w st) (r : Reps K H (w.M st) vs xs) : Le H w st (upd H p (.lst vs)) w st ∧ WOk K (upd H p (.lst vs)) w st ∧ Rep K (upd H p (.lst vs)) (w.M st) (.ref p) (.list xs) :=
  ⟨Le.fresh n ok, ok.fresh n, .lst upd_same (ok.notM n).1 (r.le (Le.fresh n ok))⟩
theorem nodup_snoc {α : Type} {l : List α} {a : α} (h : l.Nodup) (n : a ∉ l) : (l ++ [a]).Nodup := by
  rw [List.nodup_append]
  exact ⟨h, by simp, fun x hx y hy e => by
    have : y = a := by simpa using hy
    subst this; subst e
    exact n hx⟩
/-- a new list of the frame's own -/
theorem new_lm {p : Addr} {vs : List V} {xs : List D} (n : H p = none) (ok : WOk K H w st) (r : Reps K H (w.M st) vs xs) :
    Le H w st (upd H p (.lst vs)) { w with la := w.la ++ [p] } ⟨st.g, st.l ++ [some xs]⟩ ∧ WOk K (upd H p (.lst vs)) { w with la := w.la ++ [p] } ⟨st.g, st.l ++ [some xs]⟩ ∧ EVRep K (upd H p (.lst vs)) { w with la := w.la ++ [p] } ⟨st.g, st.l ++ [some xs]⟩ (.ref p) (.lm st.l.length) := by
  obtain ⟨nM, nm, nl⟩ := ok.notM n
  have hM : ∀ a, Wd.M { w with la := w.la ++ [p] } ⟨st.g, st.l ++ [some xs]⟩ a → w.M st a ∨ a = p := fun a h => by
    rcases h with h | ⟨i, ys, h, h2⟩ | h
    · exact .inl (.inl h)
    · by_cases hi : i < w.la.length
      · have h1 : w.la[i]? = some a := by
          have h' : (w.la ++ [p])[i]? = some a := h
          rwa [List.getElem?_append_left hi] at h'
        have h3 : st.l[i]? = some (some ys) := by
          have h' : (st.l ++ [some xs])[i]? = some (some ys) := h2
          rwa [List.getElem?_append_left (by rw [← ok.ll]; exact hi)] at h'
        exact .inl (.inr (.inl ⟨i, ys, h1, h3⟩))
      · have h' : (w.la ++ [p])[i]? = some a := h
        rw [List.getElem?_append_right (by omega)] at h'
        have : a ∈ [p] := List.mem_iff_getElem?.mpr ⟨_, h'⟩
        exact .inr (by simpa using this)
    · exact .inl (.inr (.inr h))
  have le : Le H w st (upd H p (.lst vs)) { w with la := w.la ++ [p] } ⟨st.g, st.l ++ [some xs]⟩ :=
    ⟨rfl, ⟨[], by simp⟩, ⟨[p], rfl⟩, fun a u h m => ⟨by rw [upd_ne (ne_of_none h n)]; exact h, fun q => (hM a q).elim m (ne_of_none h n)⟩, fun a h => by
      obtain ⟨⟨u, z⟩, _⟩ := ok.fF a h
      rw [upd_ne (ne_of_none z n)]⟩
  refine ⟨le, ⟨ok.lg, by simp [ok.ll], fun i ys h => ?_, fun i ys h => ?_, fun i a h e => ?_, ?_, fun a h => ?_⟩, ⟨p, rfl, ?_⟩⟩
  · obtain ⟨a, us, e, z, q⟩ := ok.g i ys h
    exact ⟨a, us, e, by rw [upd_ne (ne_of_none z n)]; exact z, q.le le⟩
  · by_cases hi : i < st.l.length
    · have h1 : st.l[i]? = some (some ys) := by
        have h' : (st.l ++ [some xs])[i]? = some (some ys) := h
        rwa [List.getElem?_append_left hi] at h'
      obtain ⟨a, us, e, z, q⟩ := ok.l i ys h1
      exact ⟨a, us, pre_get ⟨[p], rfl⟩ e, by rw [upd_ne (ne_of_none z n)]; exact z, q.le le⟩
    · have h' : (st.l ++ [some xs])[i]? = some (some ys) := h
      have hi2 : i = st.l.length := by
        have := (List.getElem?_eq_some_iff.mp h').1
        rw [List.length_append] at this
        simp at this
        omega
      subst hi2
      rw [List.getElem?_append_right (Nat.le_refl _)] at h'
      simp at h'
      subst h'
      refine ⟨p, vs, ?_, upd_same, r.le le⟩
      show (w.la ++ [p])[st.l.length]? = some p
      rw [List.getElem?_append_right (by rw [ok.ll]; exact Nat.le_refl _), ok.ll]
      simp
  · have h' : (st.l ++ [some xs])[i]? = some none := h
    have hi : i < st.l.length := by
      refine Classical.byContradiction fun hc => ?_
      have hi2 : i = st.l.length := by
        have := (List.getElem?_eq_some_iff.mp h').1
        rw [List.length_append] at this
        simp at this
        omega
      subst hi2
      rw [List.getElem?_append_right (Nat.le_refl _)] at h'
      simp at h'
    rw [List.getElem?_append_left hi] at h'
    have e' : (w.la ++ [p])[i]? = some a := e
    rw [List.getElem?_append_left (by rw [ok.ll]; exact hi)] at e'
    obtain ⟨u, z⟩ := ok.fz i a h' e'
    exact ⟨u, by rw [upd_ne (ne_of_none z n)]; exact z⟩
  · show (w.mu ++ (w.la ++ [p])).Nodup
    rw [← List.append_assoc]
    exact nodup_snoc ok.nd fun h => (List.mem_append.mp h).elim nm nl
  · obtain ⟨⟨u, z⟩, q1, q2⟩ := ok.fF a h
    exact ⟨⟨u, by rw [upd_ne (ne_of_none z n)]; exact z⟩, q1, fun h => (List.mem_append.mp h).elim q2 fun h => ne_of_none z n (by simpa using h)⟩
  · show (w.la ++ [p])[st.l.length]? = some p
    rw [List.getElem?_append_right (by rw [ok.ll]; exact Nat.le_refl _), ok.ll]
    simp
/-- a new list that outlives the frame -/
theorem new_gm {p : Addr} {vs : List V} {xs : List D} (n : H p = none) (ok : WOk K H w st) (r : Reps K H (w.M st) vs xs) :
    Le H w st (upd H p (.lst vs)) { w with mu := w.mu ++ [p] } ⟨st.g ++ [xs], st.l⟩ ∧ WOk K (upd H p (.lst vs)) { w with mu := w.mu ++ [p] } ⟨st.g ++ [xs], st.l⟩ ∧ EVRep K (upd H p (.lst vs)) { w with mu := w.mu ++ [p] } ⟨st.g ++ [xs], st.l⟩ (.ref p) (.gm st.g.length) := by
  obtain ⟨nM, nm, nl⟩ := ok.notM n
  have hM : ∀ a, Wd.M { w with mu := w.mu ++ [p] } ⟨st.g ++ [xs], st.l⟩ a → w.M st a ∨ a = p := fun a h => by
    rcases h with h | h | h
    · rcases List.mem_append.mp h with h | h
      · exact .inl (.inl h)
      · exact .inr (by simpa using h)
    · exact .inl (.inr (.inl h))
    · exact .inl (.inr (.inr h))
  have le : Le H w st (upd H p (.lst vs)) { w with mu := w.mu ++ [p] } ⟨st.g ++ [xs], st.l⟩ :=
    ⟨rfl, ⟨[p], rfl⟩, ⟨[], by simp⟩, fun a u h m => ⟨by rw [upd_ne (ne_of_none h n)]; exact h, fun q => (hM a q).elim m (ne_of_none h n)⟩, fun a h => by
      obtain ⟨⟨u, z⟩, _⟩ := ok.fF a h
      rw [upd_ne (ne_of_none z n)]⟩
  refine ⟨le, ⟨by simp [ok.lg], ok.ll, fun i ys h => ?_, fun i ys h => ?_, fun i a h e => ?_, ?_, fun a h => ?_⟩, ⟨p, rfl, ?_⟩⟩
  · by_cases hi : i < st.g.length
    · have h1 : st.g[i]? = some ys := by
        have h' : (st.g ++ [xs])[i]? = some ys := h
        rwa [List.getElem?_append_left hi] at h'
      obtain ⟨a, us, e, z, q⟩ := ok.g i ys h1
      exact ⟨a, us, pre_get ⟨[p], rfl⟩ e, by rw [upd_ne (ne_of_none z n)]; exact z, q.le le⟩
    · have h' : (st.g ++ [xs])[i]? = some ys := h
      have hi2 : i = st.g.length := by
        have := (List.getElem?_eq_some_iff.mp h').1
        rw [List.length_append] at this
        simp at this
        omega
      subst hi2
      rw [List.getElem?_append_right (Nat.le_refl _)] at h'
      simp at h'
      subst h'
      refine ⟨p, vs, ?_, upd_same, r.le le⟩
      show (w.mu ++ [p])[st.g.length]? = some p
      rw [List.getElem?_append_right (by rw [ok.lg]; exact Nat.le_refl _), ok.lg]
      simp
  · obtain ⟨a, us, e, z, q⟩ := ok.l i ys h
    exact ⟨a, us, e, by rw [upd_ne (ne_of_none z n)]; exact z, q.le le⟩
  · obtain ⟨u, z⟩ := ok.fz i a h e
    exact ⟨u, by rw [upd_ne (ne_of_none z n)]; exact z⟩
  · show ((w.mu ++ [p]) ++ w.la).Nodup
    rw [List.append_assoc]
    refine (List.Perm.nodup_iff (List.Perm.append_left w.mu (List.perm_append_comm (l₁ := [p]) (l₂ := w.la)))).mpr ?_
    rw [← List.append_assoc]
    exact nodup_snoc ok.nd fun h => (List.mem_append.mp h).elim nm nl
  · obtain ⟨⟨u, z⟩, q1, q2⟩ := ok.fF a h
    exact ⟨⟨u, by rw [upd_ne (ne_of_none z n)]; exact z⟩, fun h => (List.mem_append.mp h).elim q1 fun h => ne_of_none z n (by simpa using h), q2⟩
  · show (w.mu ++ [p])[st.g.length]? = some p
    rw [List.getElem?_append_right (by rw [ok.lg]; exact Nat.le_refl _), ok.lg]
    simp
/-- a new list by its kind -/
theorem new_lst {kd : Nat} {p : Addr} {vs : List V} {xs : List D} {k : KE} (n : H p = none) (ok : WOk K H w st) (r : Reps K H (w.M st) vs xs) (h : newL kd xs st k) :
    ∃ ev w' st', Le H w st (upd H p (.lst vs)) w' st' ∧ WOk K (upd H p (.lst vs)) w' st' ∧ EVRep K (upd H p (.lst vs)) w' st' (.ref p) ev ∧ k ev st' := by
  unfold newL at h
  split at h
  · obtain ⟨a, b, c⟩ := new_lst0 n ok r
    exact ⟨.d (.list xs), w, st, a, b, c, h⟩
  · obtain ⟨a, b, c⟩ := new_lm n ok r
    exact ⟨_, _, _, a, b, c, h⟩
  · obtain ⟨a, b, c⟩ := new_gm n ok r
    exact ⟨_, _, _, a, b, c, h⟩
end
end VI

/-! VI4: operators, calls of built-ins, by data. -/
namespace VI
open PySem PySem.Spec PyProof.Rows L2
theorem PE.mono {X : Cx} {e : Expr} {t t' : TE} (h : PE X e t) (m : ∀ σ H Q, t' σ H Q → t σ H Q) : PE X e t' := ⟨fun pins s σ H Q I q => h.run pins s σ H Q I (m σ H Q q)⟩
theorem PT.mono {X : Cx} {e : Expr} {t t' : TT} (h : PT X e t) (m : ∀ σ H Q, t' σ H Q → t σ H Q) : PT X e t' := ⟨fun pins s σ H Q I q => h.run pins s σ H Q I (m σ H Q q)⟩
theorem PW.mono {X : Cx} {e : Expr} {t t' : TT} (h : PW X e t) (m : ∀ σ H Q, t' σ H Q → t σ H Q) : PW X e t' := ⟨fun wh pins s σ H Q I q => h.run wh pins s σ H Q I (m σ H Q q)⟩
theorem PA.mono {X : Cx} {e : List Expr} {t t' : TA} (h : PA X e t) (m : ∀ σ H Q, t' σ H Q → t σ H Q) : PA X e t' := ⟨fun pos pins s σ H Q I q => h.run pos pins s σ H Q I (m σ H Q q)⟩
theorem PS.mono {X : Cx} {e : Stmt} {t t' : TS} (h : PS X e t) (m : ∀ D σ H, t' D σ H → t D σ H) : PS X e t' := ⟨fun pins s σ H D I q => h.run pins s σ H D I (m D σ H q)⟩
theorem PSs.mono {X : Cx} {e : List Stmt} {t t' : TS} (h : PSs X e t) (m : ∀ D σ H, t' D σ H → t D σ H) : PSs X e t' := ⟨fun pins s σ H D I q => h.run pins s σ H D I (m D σ H q)⟩
theorem PO.mono {X : Cx} {e : Option Expr} {t t' : TO} (h : PO X e t) (m : ∀ σ H Q, t' σ H Q → t σ H Q) : PO X e t' := ⟨fun pins s σ H Q I q => h.run pins s σ H Q I (m σ H Q q)⟩
theorem PI.mono {X : Cx} {tg e : Expr} {t t' : TI} (h : PI X tg e t) (m : ∀ σ H R, t' σ H R → t σ H R) : PI X tg e t' := ⟨fun pins s σ H R I q => h.run pins s σ H R I (m σ H R q)⟩
theorem PG.mono {X : Cx} {e : Expr} {t t' : TG} (h : PG X e t) (m : ∀ v σ H Q, t' v σ H Q → t v σ H Q) : PG X e t' := ⟨fun pins s σ H v u Q I r q => h.run pins s σ H v u Q I r (m v σ H Q q)⟩

/-- what is wanted behind an operation that makes no list that may change -/
abbrev Post (K : PySem.W.Frag) (H : Hp) (w : Wd) (st : Sto) (Q : VK) (ev : EV) : Prop := ∀ v H', Le H w st H' w st → WOk K H' w st → EVRep K H' w st v ev → Q v H'
abbrev PostW (K : PySem.W.Frag) (H : Hp) (w : Wd) (st : Sto) (Q : VK) (ev : EV) (st' : Sto) : Prop := ∀ v H' w', Le H w st H' w' st' → WOk K H' w' st' → EVRep K H' w' st' v ev → Q v H'
def opA : BOp → Operator
  | .add => .Add | .sub => .Sub | .mul => .Mult | .fdiv => .FloorDiv | .mod => .Mod | .pow => .Pow
def opC : COp → CmpOp
  | .lt => .Lt | .le => .LtE | .gt => .Gt | .ge => .GtE | .eq => .Eq | .ne => .NotEq | .isin => .In | .notin => .NotIn
def rBin (K : PySem.W.Frag) (o : BOp) : R2 := fun x y H Q => ∃ w st ex ey, WOk K H w st ∧ EVRep K H w st x ex ∧ EVRep K H w st y ey ∧ binK o ex ey (Post K H w st Q)
def rCmp (K : PySem.W.Frag) (o : COp) : R2 := fun x y H Q => ∃ w st ex ey, WOk K H w st ∧ EVRep K H w st x ex ∧ EVRep K H w st y ey ∧ cmpK o ex ey st fun b => Q (.bl b) H
structure XOk (X : Cx) : Prop where
  calm : X.calm = true
  xe : X.xe = fun _ _ => False
  hu : X.A.units + 65 < cLine
  gd : X.A.guards = some []
  nodig : X.base.NoDigits
theorem line6 : (1000000 : Nat) ≤ sizeLine := by rw [sizeLine_eq]; decide
section
variable {X : Cx}
theorem op_fdivA : OpR X (binaryOp .FloorDiv) (rI (fun _ j => j ≠ 0 ∧ j.natAbs.log2 < 9000) fun i j => .int (i.fdiv j)) := opI fun _ _ _ _ _ _ _ hc q => floordiv_int hc.1 q (.inl (PyProof.noPylong_of_log2 hc.2))
theorem iop_fdivA : OpR X (inplaceOp .FloorDiv) (rI (fun _ j => j ≠ 0 ∧ j.natAbs.log2 < 9000) fun i j => .int (i.fdiv j)) := opI fun _ _ _ _ _ _ _ hc q => ifloordiv_int hc.1 q (.inl (PyProof.noPylong_of_log2 hc.2))
theorem iop_mulW : OpR X (inplaceOp .Mult) (rI CMulW fun i j => .int (i * j)) := opI fun _ _ _ _ _ _ _ hc q => imul_int q hc.ok
theorem op_bin (o : BOp) : OpR X (binaryOp (opA o)) (rBin X.K o) := by
  intro pins s σ H x y v u Q I rx ry h
  obtain ⟨w, st, ex, ey, ok, r1, r2, q⟩ := h
  have l6 := line6
  unfold binK at q
  split at q
  · cases (show Rep _ _ _ x _ from r1)
    cases (show Rep _ _ _ y _ from r2)
    exact op_add pins s σ H _ _ v u Q I rx ry ⟨_, _, rfl, rfl, q _ H Le.refl ok (.int _)⟩
  · cases (show Rep _ _ _ x _ from r1)
    cases (show Rep _ _ _ y _ from r2)
    exact op_sub pins s σ H _ _ v u Q I rx ry ⟨_, _, rfl, rfl, q _ H Le.refl ok (.int _)⟩
  · cases (show Rep _ _ _ x _ from r1)
    cases (show Rep _ _ _ y _ from r2)
    exact op_mulW pins s σ H _ _ v u Q I rx ry ⟨_, _, rfl, rfl, q.1, q.2 _ H Le.refl ok (.int _)⟩
  · cases (show Rep _ _ _ x _ from r1)
    cases (show Rep _ _ _ y _ from r2)
    exact op_fdivA pins s σ H _ _ v u Q I rx ry ⟨_, _, rfl, rfl, q.1, q.2 _ H Le.refl ok (.int _)⟩
  · cases (show Rep _ _ _ x _ from r1)
    cases (show Rep _ _ _ y _ from r2)
    exact op_mod pins s σ H _ _ v u Q I rx ry ⟨_, _, rfl, rfl, q.1, q.2 _ H Le.refl ok (.int _)⟩
  · cases (show Rep _ _ _ x _ from r1)
    cases (show Rep _ _ _ y _ from r2)
    exact op_pow pins s σ H _ _ v u Q I rx ry ⟨_, _, rfl, rfl, q.1, q.2 _ H Le.refl ok (.int _)⟩
  · cases (show Rep _ _ _ x _ from r1) with
    | tup f1 e1 =>
      cases (show Rep _ _ _ y _ from r2) with
      | tup f2 e2 =>
        refine op_catA pins s σ H _ _ v u Q I rx ry ⟨_, _, _, _, rfl, rfl, f1.sq, f2.sq, ?_, fun z => ?_, fun _ z => ?_, fun _ _ p n => ?_⟩
        · rw [e1.length, e2.length]; omega
        · subst z
          cases e1
          exact q.2 _ H Le.refl ok r2
        · subst z
          cases e2
          refine q.2 _ H Le.refl ok ?_
          rw [List.append_nil]
          exact r1
        · obtain ⟨a, b, c⟩ := new_tup n ok (e1.append e2)
          exact q.2 _ _ a b c
  · cases (show Rep _ _ _ x _ from r1) with
    | lst f1 m1 e1 =>
      cases (show Rep _ _ _ y _ from r2) with
      | lst f2 m2 e2 =>
        refine op_cat pins s σ H _ _ v u Q I rx ry ⟨_, _, _, _, rfl, rfl, f1, f2, ?_, fun p n => ?_⟩
        · rw [e1.length, e2.length]; omega
        · obtain ⟨a, b, c⟩ := new_lst0 n ok (e1.append e2)
          exact q.2 _ _ a b c
  · cases (show Rep _ _ _ x _ from r1)
    cases (show Rep _ _ _ y _ from r2)
    exact op_add_str pins s σ H _ _ v u Q I rx ry ⟨_, _, rfl, rfl, by omega, q.2 _ H Le.refl ok (.str _)⟩
  · cases (show Rep _ _ _ y _ from r2)
    cases (show Rep _ _ _ x _ from r1) with
    | lst f1 m1 e1 =>
      obtain ⟨⟨h0, h1, h2⟩, q⟩ := q
      refine op_rep pins s σ H _ _ v u Q I rx ry ⟨_, _, _, rfl, rfl, f1, by omega, by omega, ?_, fun p n => ?_⟩
      · rw [e1.length]; omega
      · obtain ⟨a, b, c⟩ := new_lst0 n ok (e1.rep _)
        exact q _ _ a b c
  · exact q.elim
def rAug (K : PySem.W.Frag) (o : BOp) : R2 := fun x y H Q => ∃ w st ex ey, WOk K H w st ∧ EVRep K H w st x ex ∧ EVRep K H w st y ey ∧ augK o ex ey (Post K H w st Q)
theorem op_aug (o : BOp) : OpR X (inplaceOp (opA o)) (rAug X.K o) := by
  intro pins s σ H x y v u Q I rx ry h
  obtain ⟨w, st, ex, ey, ok, r1, r2, qi, qp, q⟩ := h
  unfold binK at q
  split at q
  · cases (show Rep _ _ _ x _ from r1)
    cases (show Rep _ _ _ y _ from r2)
    exact iop_add pins s σ H _ _ v u Q I rx ry ⟨_, _, rfl, rfl, q _ H Le.refl ok (.int _)⟩
  · cases (show Rep _ _ _ x _ from r1)
    cases (show Rep _ _ _ y _ from r2)
    exact iop_sub pins s σ H _ _ v u Q I rx ry ⟨_, _, rfl, rfl, q _ H Le.refl ok (.int _)⟩
  · cases (show Rep _ _ _ x _ from r1)
    cases (show Rep _ _ _ y _ from r2)
    exact iop_mulW pins s σ H _ _ v u Q I rx ry ⟨_, _, rfl, rfl, q.1, q.2 _ H Le.refl ok (.int _)⟩
  · cases (show Rep _ _ _ x _ from r1)
    cases (show Rep _ _ _ y _ from r2)
    exact iop_fdivA pins s σ H _ _ v u Q I rx ry ⟨_, _, rfl, rfl, q.1, q.2 _ H Le.refl ok (.int _)⟩
  · cases (show Rep _ _ _ x _ from r1)
    cases (show Rep _ _ _ y _ from r2)
    exact iop_mod pins s σ H _ _ v u Q I rx ry ⟨_, _, rfl, rfl, q.1, q.2 _ H Le.refl ok (.int _)⟩
  · exact absurd rfl qp
  all_goals first | exact qi.elim | exact q.elim
theorem eqv_strs {x : Str} : ∀ {ys : List D} {vs : List V} {K : PySem.W.Frag} {H : Hp} {M : Addr → Prop}, Reps K H M vs ys → (ys.all fun z => match z with | .str _ => true | _ => false) = true → vs.all flatV = true ∧ inV (.str x) vs = ys.any fun z => PyData.eqv z (.str x)
  | _, _, _, _, _, .nil, _ => ⟨rfl, rfl⟩
  | _, _, _, _, _, .cons r t, h => by
    rw [List.all_cons, Bool.and_eq_true] at h
    obtain ⟨h1, h2⟩ := eqv_strs t h.2
    cases r with
    | str z =>
      refine ⟨by rw [List.all_cons, h1]; rfl, ?_⟩
      unfold inV at h2 ⊢
      rw [List.any_cons, List.any_cons, h2]
      congr 1
    | _ => exact absurd h.1 Bool.false_ne_true
theorem flat_of {x y : D} (h : flatP x y = true) : (∃ a b, x = .int a ∧ y = .int b) ∨ ∃ a b, x = .str a ∧ y = .str b := by
  unfold flatP at h
  split at h
  · exact .inl ⟨_, _, rfl, rfl⟩
  · exact .inr ⟨_, _, rfl, rfl⟩
  · cases h
theorem op_cmp (xo : XOk X) (o : COp) : OpR X (compareOp (opC o)) (rCmp X.K o) := by
  intro pins s σ H x y v u Q I rx ry h
  obtain ⟨w, st, ex, ey, ok, r1, r2, q⟩ := h
  have hu := xo.hu
  unfold cmpK at q
  split at q
  · cases (show Rep _ _ _ x _ from r1)
    cases (show Rep _ _ _ y _ from r2)
    exact op_lt pins s σ H _ _ v u Q I rx ry ⟨_, _, rfl, rfl, q⟩
  · cases (show Rep _ _ _ x _ from r1)
    cases (show Rep _ _ _ y _ from r2)
    exact op_le pins s σ H _ _ v u Q I rx ry ⟨_, _, rfl, rfl, q⟩
  · cases (show Rep _ _ _ x _ from r1)
    cases (show Rep _ _ _ y _ from r2)
    exact op_gt pins s σ H _ _ v u Q I rx ry ⟨_, _, rfl, rfl, q⟩
  · cases (show Rep _ _ _ x _ from r1)
    cases (show Rep _ _ _ y _ from r2)
    exact op_ge pins s σ H _ _ v u Q I rx ry ⟨_, _, rfl, rfl, q⟩
  · rename_i dx dy
    obtain ⟨o, q⟩ := q
    rcases o with o | ⟨o1, o2⟩
    · rcases flat_of o with ⟨a, b, rfl, rfl⟩ | ⟨a, b, rfl, rfl⟩
      · cases (show Rep _ _ _ x _ from r1)
        cases (show Rep _ _ _ y _ from r2)
        refine op_eq pins s σ H _ _ v u Q I rx ry ⟨rfl, ?_⟩
        rw [show decide (V.int _ = V.int _) = _ from dec_int]
        rw [PyData.eqv] at q
        exact q
      · cases (show Rep _ _ _ x _ from r1)
        cases (show Rep _ _ _ y _ from r2)
        refine op_eq pins s σ H _ _ v u Q I rx ry ⟨rfl, ?_⟩
        rw [show decide (V.str _ = V.str _) = _ from dec_str]
        rw [PyData.eqv] at q
        exact q
    · exact op_eqD (by omega) pins s σ H _ _ v u Q I rx ry ⟨_, _, Rep.dp r1, Rep.dp r2, o1, o2, q⟩
  · rename_i dx dy
    obtain ⟨o, q⟩ := q
    rcases o with o | ⟨o1, o2⟩
    · rcases flat_of o with ⟨a, b, rfl, rfl⟩ | ⟨a, b, rfl, rfl⟩
      · cases (show Rep _ _ _ x _ from r1)
        cases (show Rep _ _ _ y _ from r2)
        refine op_ne pins s σ H _ _ v u Q I rx ry ⟨rfl, ?_⟩
        rw [show decide (V.int _ = V.int _) = _ from dec_int]
        rw [PyData.eqv] at q
        exact q
      · cases (show Rep _ _ _ x _ from r1)
        cases (show Rep _ _ _ y _ from r2)
        refine op_ne pins s σ H _ _ v u Q I rx ry ⟨rfl, ?_⟩
        rw [show decide (V.str _ = V.str _) = _ from dec_str]
        rw [PyData.eqv] at q
        exact q
    · exact op_neD (by omega) pins s σ H _ _ v u Q I rx ry ⟨_, _, Rep.dp r1, Rep.dp r2, o1, o2, q⟩
  · cases (show Rep _ _ _ x _ from r1)
    cases (show Rep _ _ _ y _ from r2) with
    | tup f2 e2 =>
      obtain ⟨h1, h2⟩ := eqv_strs e2 q.1
      refine op_in_seq pins s σ H _ _ v u Q I rx ry ⟨_, _, rfl, .inr f2.sq, rfl, h1, ?_⟩
      rw [h2]
      exact q.2
  · cases (show Rep _ _ _ x _ from r1)
    cases (show Rep _ _ _ y _ from r2) with
    | tup f2 e2 =>
      obtain ⟨h1, h2⟩ := eqv_strs e2 q.1
      refine op_notIn_seq pins s σ H _ _ v u Q I rx ry ⟨_, _, rfl, .inr f2.sq, rfl, h1, ?_⟩
      rw [h2]
      exact q.2
  · exact op_inD (by omega) pins s σ H _ _ v u Q I rx ry ⟨_, _, Rep.dp r1, Rep.dp r2, q.1, q.2.1, q.2.2⟩
  · exact op_notInD (by omega) pins s σ H _ _ v u Q I rx ry ⟨_, _, Rep.dp r1, Rep.dp r2, q.1, q.2.1, q.2.2⟩
  · exact q.elim
end
end VI

/-! VI5: repr of data whose ints have fewer than 4,300 digits. -/
namespace VI
open PySem PySem.Spec PyProof.Rows
open PySem.Builtin PySem.Builtin.Str PySem.Builtin.Int
section
variable {prog : Program} {w : World} {A : Around} {E : Value → Shared → Prop} {s : Shared} {a : Int} {t : Tok} {h₀ : Heap}
theorem call_int_repr_lt {Q : Value → Shared → Prop} (hn : s.heap.NoDigits) (hlt : a.natAbs < 10 ^ 4300) (h1 : Q (.str (toString a) s.toks) { s with toks := s.toks + 1 }) :
    wpAny (model prog w) A (call (.builtin "int.__repr__") [.int a t]) Q E s := by
  refine wpAny_call_entry F.slot_int_repr (typeIs_int s a t) F.entry_int_repr ?_ (F.args_int_repr_1 _)
  unfold Builtin.«int.__repr__»
  show wpAny _ _ (do let r ← Builtin.overDigitLimit? a; _) _ _ s
  refine wpAny_bind (overDigitLimit_any hn (fun hlt => ?_) (fun hge => absurd hlt (Nat.not_lt.mpr hge)))
  exact wpAny_bind (wpAny_mkStr (wpAny_pure ⟨_, rfl, h1⟩) (int_text_fits10 hlt))
theorem pyReprObj_int_lt {Q : Value → Shared → Prop} (hn : s.heap.NoDigits) (hlt : a.natAbs < 10 ^ 4300) (h : Q (.str (toString a) s.toks) { s with toks := s.toks + 1 }) : wpAny (model prog w) A (pyReprObj (.int a t)) Q E s := by
  have hv : [Value.int a t].any Value.onHeap = false := rfl
  unfold pyReprObj
  simp only [cRoomFor, hv, Bool.false_eq_true, if_false, pure_bind]
  refine wpAny_bind (wpAny_specialOf (name := Str.ofString "__repr__") (typeIs_int s a t) F.slot_int_repr.lookup ?_)
  refine wpAny_bind (m := callSpecialIfBound? (.int a t) (Str.ofString "__repr__")) (wpAny_callSpecialIfBound?_slot (name := Str.ofString "__repr__") (typeIs_int s a t) F.slot_int_repr (call_int_repr_lt hn hlt ?_))
  exact wpAny_bind (wpAny_isInstance (T := "str") (b := true) rfl isSubtype_str_str (wpAny_pure h))
theorem pyRepr_int_lt {Q : Str → Shared → Prop} (hn : s.heap.NoDigits) (hlt : a.natAbs < 10 ^ 4300) (h : Q (toString a) { s with toks := s.toks + 1 }) : wpAny (model prog w) A (pyRepr (.int a t)) Q E s := by
  unfold pyRepr
  exact wpAny_bind (pyReprObj_int_lt hn hlt (wpAny_pure h))
theorem reprK_int (hn : h₀.NoDigits) (hlt : a.natAbs < 10 ^ 4300) (as : List Addr) (d : Nat) : ReprK prog w as h₀ d (.int a t) (toString a) := by
  intro base hb A g E s Q hg hcl hu hk hQ
  rw [pyReprUnder_leaf (by omega) (fun _ z => by cases z)]
  exact pyRepr_int_lt (hn.keeps hk) hlt (hQ s.heap _ fun _ _ e => e)
mutual
theorem reprK_of : ∀ {v : Value} {d : PyData} {as : List Addr}, h₀.NoDigits → Reads h₀ v d as → showB d = true → d.shown.length ≤ sizeLine → ∃ bs, ReadAtMost h₀ d.depth bs ∧ ReprK prog w bs h₀ d.depth v d.shown
  | _, _, _, _, .none, _, _ => ⟨[], (fun _ h => nomatch h), by simp only [PyData.shown]; exact .of_is ReprIs.none _ _ _⟩
  | _, _, _, _, .bool b, _, _ => ⟨[], (fun _ h => nomatch h), by simp only [PyData.shown]; exact .of_is (ReprIs.bool b) _ _ _⟩
  | _, _, _, hn, .int i t, hs, _ => ⟨[], (fun _ h => nomatch h), by
    simp only [PyData.shown]
    simp only [showB] at hs
    exact reprK_int hn (of_decide_eq_true hs) _ _⟩
  | _, _, _, _, .str x t, _, hz => ⟨[], (fun _ h => nomatch h), by simp only [PyData.shown]; exact .of_is (ReprIs.str x t (by simpa only [PyData.shown] using hz)) _ _ _⟩
  | _, _, _, hn, .list (a := a) (vs := vs) (xs := xs) h1 h2 h3 h4, hs, hz => by
    have hz' : (listText (PyData.shownAll xs)).length ≤ sizeLine := by simpa only [PyData.shown] using hz
    obtain ⟨bs, hb, hk⟩ := reprKs_of hn h4 (by simpa only [showB] using hs) (fun t ht => Nat.le_trans (listText_mem_le ht) hz')
    have r : Reads h₀ (.ref a) (.list xs) _ := .list h1 h2 h3 h4
    have hna : a ∉ bs := not_mem_of_deeper r (by simp only [PyData.depth]; omega) hb
    refine ⟨a :: bs, ReadAtMost.cons r (by simp only [PyData.depth]; omega) hb, ?_⟩
    simp only [PyData.depth, PyData.shown]
    obtain ⟨l⟩ := vs
    cases l with
    | nil =>
      have h4' : ReadsAll h₀ [] xs _ := h4
      cases h4'
      simp only [PyData.shownAll, listText_nil]
      exact ReprK.listEmpty h1 h2 h3
    | cons x l => exact ReprK.list h1 h2 h3 hna (by simpa using hk.length_eq) (fun i y e => hk.item i y (by simpa using e))
  | _, _, _, hn, .tuple (a := a) (xs := xs) h1 h2 h3 h4, hs, hz => by
    have hz' : (tupleText (PyData.shownAll xs)).length ≤ sizeLine := by simpa only [PyData.shown] using hz
    obtain ⟨bs, hb, hk⟩ := reprKs_of hn h4 (by simpa only [showB] using hs) (fun t ht => Nat.le_trans (tupleText_mem_le ht) hz')
    have r : Reads h₀ (.ref a) (.tuple xs) _ := .tuple h1 h2 h3 h4
    have hna : a ∉ bs := not_mem_of_deeper r (by simp only [PyData.depth]; omega) hb
    refine ⟨a :: bs, ReadAtMost.cons r (by simp only [PyData.depth]; omega) hb, ?_⟩
    simp only [PyData.depth, PyData.shown]
    exact ReprK.tuple h1 h2 h3 hna hk
  | _, _, _, _, .dict _ _ _ _ _, hs, _ => by simp [showB] at hs
theorem reprKs_of : ∀ {vs : List Value} {ds : List PyData} {as : List Addr}, h₀.NoDigits → ReadsAll h₀ vs ds as → showBs ds = true → (∀ t ∈ PyData.shownAll ds, t.length ≤ sizeLine) →
    ∃ bs, ReadAtMost h₀ (PyData.depthAll ds) bs ∧ ReprAllK prog w bs h₀ (PyData.depthAll ds) vs (PyData.shownAll ds)
  | _, _, _, _, .nil, _, _ => ⟨[], (fun _ h => nomatch h), by simp only [PyData.shownAll]; exact .nil⟩
  | _, _, _, hn, .cons (d := d) (ds := ds) r rs, hs, hz => by
    have hs' : showB d = true ∧ showBs ds = true := by simpa [showBs] using hs
    obtain ⟨b1, hb1, k1⟩ := reprK_of hn r hs'.1 (hz _ (by simp only [PyData.shownAll]; exact List.mem_cons_self ..))
    obtain ⟨b2, hb2, k2⟩ := reprKs_of hn rs hs'.2 (fun t ht => hz t (by simp only [PyData.shownAll]; exact List.mem_cons_of_mem _ ht))
    refine ⟨b1 ++ b2, ?_, ?_⟩
    · intro b hm
      simp only [PyData.depthAll]
      rcases List.mem_append.mp hm with hm | hm
      · obtain ⟨d', as', r', hd'⟩ := hb1 b hm
        exact ⟨d', as', r', Nat.le_trans hd' (Nat.le_max_left _ _)⟩
      · obtain ⟨d', as', r', hd'⟩ := hb2 b hm
        exact ⟨d', as', r', Nat.le_trans hd' (Nat.le_max_right _ _)⟩
    · simp only [PyData.depthAll, PyData.shownAll]
      exact .cons ((k1.more fun b hb => List.mem_append_left _ hb).level_le (Nat.le_max_left _ _)) (k2.more_le (fun b hb => List.mem_append_right _ hb) (Nat.le_max_right _ _))
end
end
section
variable {prog : Program} {w : World} {A : Around} {E : Value → Shared → Prop} {s : Shared} {v : Value}
theorem call_repr_slot {T id : String} {Q : Value → Shared → Prop} (hT : s.TypeIs v T) (slot : SlotG T "__repr__" id) (hu : A.units + 1 < cLine)
    (h : wpAny (model prog w) A.in1 (call (.builtin id) [v]) (fun r s' => (∃ x u, r = .str x u) ∧ Q r s') E s) : wpAny (model prog w) A (call (.builtin "repr") [v]) Q E s := by
  refine Calls.call_function_entry F.kind_repr F.plain_repr F.entry_repr (F.args_repr1 _) ?_
  unfold Builtin.«repr»
  refine wpAny_bind (m := oneArg "repr" _) (wpAny_pure ?_)
  refine wpAny_bind (wpAny_cRoomFor hu ?_)
  refine wpAny_bind (wpAny_specialOf (name := Str.ofString "__repr__") hT slot.lookup ?_)
  refine wpAny_bind (m := callSpecialIfBound? v (Str.ofString "__repr__")) (wpAny_callSpecialIfBound?_slotG (name := Str.ofString "__repr__") hT slot (wpAny_mono h (fun r s' hq => ?_) fun _ _ z => z))
  obtain ⟨⟨x, u, rfl⟩, hq⟩ := hq
  refine wpAny_bind (wpAny_isInstance (T := "str") (b := true) rfl isSubtype_str_str ?_)
  exact wpAny_pure ⟨_, rfl, hq⟩
theorem call_repr_of {d : PyData} {as : List Addr} (hn : s.heap.NoDigits) (r : Reads s.heap v d as) (hs : showB d = true) (hz : d.shown.length ≤ sizeLine) {Q : Value → Shared → Prop} (hg : A.guards = some []) (hu : A.units + 65 < cLine) (hd : d.depth ≤ 64)
    (hQ : ∀ h' u tk, (∀ b o, s.heap.get? b = some o → h'.get? b = some o) → Q (.str d.shown u) { s with heap := h', toks := tk }) : wpAny (model prog w) A (call (.builtin "repr") [v]) Q E s := by
  cases r with
  | none =>
    simp only [PyData.shown] at hQ
    exact PySem.P.repr_of_none (hQ s.heap _ _ fun _ _ e => e)
  | bool b =>
    simp only [PyData.shown] at hQ
    exact PySem.P.repr_of_bool (hQ s.heap _ _ fun _ _ e => e)
  | int i t =>
    simp only [PyData.shown] at hQ
    simp only [showB] at hs
    refine call_repr_slot (typeIs_int s i t) F.slot_int_repr.toG (by omega) ?_
    exact call_int_repr_lt hn (of_decide_eq_true hs) ⟨⟨_, _, rfl⟩, hQ s.heap _ _ fun _ _ e => e⟩
  | str x t =>
    simp only [PyData.shown] at hQ hz
    exact PySem.P.repr_of_str (hQ s.heap _ _ fun _ _ e => e) hz
  | @list a o vs n xs bs h1 h2 h3 h4 =>
    have hz' : (listText (PyData.shownAll xs)).length ≤ sizeLine := by simpa only [PyData.shown] using hz
    obtain ⟨bs, hb, hk⟩ := reprKs_of (prog := prog) (w := w) hn h4 (by simpa only [showB] using hs) (fun t ht => Nat.le_trans (listText_mem_le ht) hz')
    have r : Reads s.heap (.ref a) (.list xs) _ := .list h1 h2 h3 h4
    have hna : a ∉ bs := not_mem_of_deeper r (by simp only [PyData.depth]; omega) hb
    simp only [PyData.depth] at hd
    simp only [PyData.shown] at hQ
    refine call_repr_slot ⟨_, h1, h2⟩ F.slot_list_repr.toG (by omega) ?_
    obtain ⟨l⟩ := vs
    cases l with
    | nil =>
      have h4' : ReadsAll s.heap [] xs _ := h4
      cases h4'
      simp only [PyData.shownAll, listText_nil] at hQ
      exact call_list_repr_empty ⟨_, h1, h2⟩ h1 h3 ⟨⟨_, _, rfl⟩, hQ s.heap _ _ fun _ _ e => e⟩
    | cons x l =>
      exact call_list_reprK h1 h2 h3 hna (by simpa using hk.length_eq) (fun i y e => hk.item i y (by simpa using e)) hg (fun b _ => Clear.nil b) (by show A.units + 1 + _ < _; omega) (fun _ _ e => e) (fun h' u tk hk' => ⟨⟨_, _, rfl⟩, hQ h' u tk hk'⟩) hz'
  | @tuple a o vs n xs bs h1 h2 h3 h4 =>
    have hz' : (tupleText (PyData.shownAll xs)).length ≤ sizeLine := by simpa only [PyData.shown] using hz
    obtain ⟨bs, hb, hk⟩ := reprKs_of (prog := prog) (w := w) hn h4 (by simpa only [showB] using hs) (fun t ht => Nat.le_trans (tupleText_mem_le ht) hz')
    have r : Reads s.heap (.ref a) (.tuple xs) _ := .tuple h1 h2 h3 h4
    have hna : a ∉ bs := not_mem_of_deeper r (by simp only [PyData.depth]; omega) hb
    simp only [PyData.depth] at hd
    simp only [PyData.shown] at hQ
    refine call_repr_slot ⟨_, h1, h2⟩ F.slot_tuple_repr (by omega) ?_
    exact call_tuple_reprK h1 h2 h3 hna hk hg (fun b _ => Clear.nil b) (by show A.units + 1 + _ < _; omega) (fun _ _ e => e) (fun h' u tk hk' => ⟨⟨_, _, rfl⟩, hQ h' u tk hk'⟩) hz'
  | dict => simp [showB] at hs
end
end VI
namespace VI
open PySem PySem.Spec PyProof.Rows L2
theorem call_reprD {X : Cx} (xo : XOk X) : CallR X (.builtin "repr") (fun vs H Q => ∃ v d, vs = [v] ∧ Dp X.K H v d ∧ RepOk d ∧ Q (.str d.shown) H) := by
  intro pins s σ H xs us Q I r h
  obtain ⟨v, d, rfl, hd, ⟨h1, h2, h3⟩, q⟩ := h
  obtain ⟨u, rfl, ru⟩ := vals1 r
  obtain ⟨as, rd⟩ := Dp.reads I d v u hd ru
  refine call_repr_of (xo.nodig.keeps I.bk) rd h2 (by rw [sizeLine_eq]; omega) xo.gd xo.hu (SeqAt.depth_of_shaped h1) fun h' t tk k => ⟨.str d.shown, H, I.kept k, ⟨_, rfl⟩, q⟩
end VI

/-! VI6: expressions: from the meaning to the readings. -/
namespace VI
open PySem PySem.Spec PyProof.Rows L2
section
variable {K : PySem.W.Frag} {H H1 : Hp} {w w1 : Wd} {st st1 : Sto}
theorem seq_rep (ok : WOk K H w st) {v : V} {ev : EV} (r : EVRep K H w st v ev) {k : Bool → List D → Prop} (h : seqE ev st k) :
    ∃ b ds a xs, v = .ref a ∧ (b = true → SqL K H a xs) ∧ (b = false → SqT K H a xs ∧ ev = .d (.tuple ds)) ∧ Reps K H (w.M st) xs ds ∧ k b ds := by
  unfold seqE at h
  split at h
  · cases (show Rep _ _ _ v _ from r) with
    | lst f m e => exact ⟨true, _, _, _, rfl, fun _ => SqL.of f, (fun z => nomatch z), e, h⟩
  · cases (show Rep _ _ _ v _ from r) with
    | tup f e => exact ⟨false, _, _, _, rfl, (fun z => nomatch z), fun _ => ⟨f.sq, rfl⟩, e, h⟩
  · split at h
    · rename_i e
      obtain ⟨a, q, ha⟩ := r
      obtain ⟨a', vs, h1, h2, h3⟩ := ok.l _ _ e
      rw [ha] at h1
      cases h1
      exact ⟨true, _, _, _, q, fun _ => SqL.of h2, (fun z => nomatch z), h3, h⟩
    · exact h.elim
  · split at h
    · rename_i e
      obtain ⟨a, q, ha⟩ := r
      obtain ⟨a', vs, h1, h2, h3⟩ := ok.g _ _ e
      rw [ha] at h1
      cases h1
      exact ⟨true, _, _, _, q, fun _ => SqL.of h2, (fun z => nomatch z), h3, h⟩
    · exact h.elim
  · obtain ⟨a, xs, q, f, e⟩ := r
    exact ⟨true, _, _, _, q, fun _ => f.sq, (fun z => nomatch z), e, h⟩
  · exact h.elim
theorem isEmpty_reps {M : Addr → Prop} {xs : List V} {ds : List D} (r : Reps K H M xs ds) : (!ds.isEmpty) = !xs.isEmpty := by
  cases r <;> rfl
theorem tru_rep (ok : WOk K H w st) {v : V} {ev : EV} (r : EVRep K H w st v ev) {k : Bool → Prop} (h : truE ev st k) : ∃ b, TruV K v H b ∧ k b := by
  unfold truE at h
  split at h
  · cases (show Rep _ _ _ v _ from r)
    exact ⟨_, rfl, h⟩
  · cases (show Rep _ _ _ v _ from r)
    exact ⟨_, rfl, h⟩
  · cases (show Rep _ _ _ v _ from r)
    exact ⟨_, rfl, h⟩
  · rename_i x
    cases (show Rep _ _ _ v _ from r)
    refine ⟨_, ⟨h.1, rfl⟩, ?_⟩
    have e : (((x.length : Nat) : Int) != 0) = (x.length != 0) := by
      rw [Bool.eq_iff_iff]
      simp only [bne_iff_ne, ne_eq]
      omega
    rw [e]
    exact h.2
  · obtain ⟨b, ds, a, xs, rfl, h1, h2, h3, h4⟩ := seq_rep ok r h
    rw [isEmpty_reps h3] at h4
    cases b with
    | true => exact ⟨_, .inl ⟨xs, h1 rfl, rfl⟩, h4⟩
    | false => exact ⟨_, .inr (.inl ⟨xs, (h2 rfl).1, rfl⟩), h4⟩
theorem allD_rep : ∀ {vs : List V} {evs : List EV} {k : List D → Prop}, EVReps K H w st vs evs → allD evs k → ∃ ds, Reps K H (w.M st) vs ds ∧ k ds
  | _, _, _, .nil, h => ⟨[], .nil, h⟩
  | _, _, _, .cons (d := .d x) r t, h => by
    obtain ⟨ds, q, h⟩ := allD_rep t h
    exact ⟨x :: ds, .cons r q, h⟩
  | _, _, _, .cons (d := .lm _) _ _, h => h.elim
  | _, _, _, .cons (d := .gm _) _ _, h => h.elim
  | _, _, _, .cons (d := .sc _) _ _, h => h.elim
theorem dE_rep {v : V} {ev : EV} (r : EVRep K H w st v ev) {k : D → Prop} (h : dE ev k) : ∃ d, Rep K H (w.M st) v d ∧ k d := by
  unfold dE at h
  split at h
  · exact ⟨_, r, h⟩
  · exact h.elim
theorem bools_rep {M : Addr → Prop} : ∀ {xs : List V} {ds : List D} {k : List Bool → Prop}, Reps K H M xs ds → boolsE ds k → ∃ bs, xs = bs.map V.bl ∧ k bs
  | _, _, _, .nil, h => ⟨[], rfl, h⟩
  | _, _, _, .cons (d := .bool b) r t, h => by
    cases r
    obtain ⟨bs, e, h⟩ := bools_rep t h
    exact ⟨b :: bs, by rw [e]; rfl, h⟩
  | _, _, _, .cons (d := .none) _ _, h => h.elim
  | _, _, _, .cons (d := .int _) _ _, h => h.elim
  | _, _, _, .cons (d := .str _) _ _, h => h.elim
  | _, _, _, .cons (d := .list _) _ _, h => h.elim
  | _, _, _, .cons (d := .tuple _) _ _, h => h.elim
  | _, _, _, .cons (d := .dict _) _ _, h => h.elim
theorem evreps1 {vs : List V} {e : EV} (r : EVReps K H w st vs [e]) : ∃ v, vs = [v] ∧ EVRep K H w st v e := by
  cases r with
  | cons a b => cases b; exact ⟨_, rfl, a⟩
theorem evreps2 {vs : List V} {e f : EV} (r : EVReps K H w st vs [e, f]) : ∃ v u, vs = [v, u] ∧ EVRep K H w st v e ∧ EVRep K H w st u f := by
  cases r with
  | cons a b => cases b with
    | cons c d => cases d; exact ⟨_, _, rfl, a, c⟩
end
/-! ### built-ins -/
def bltV : Blt → Value
  | .len => .builtin "len" | .abs => .builtin "abs" | .int => .type "int" | .min2 => .builtin "min" | .max2 => .builtin "max" | .gcd => .builtin "math.gcd"
  | .all => .builtin "all" | .any => .builtin "any" | .tuple => .type "tuple" | .list => .type "list" | .repr => .builtin "repr"
def rBlt (K : PySem.W.Frag) (b : Blt) (kd : Nat) : List V → Hp → VK → Prop := fun vs H Q => ∃ w st evs, WOk K H w st ∧ EVReps K H w st vs evs ∧ bltK b kd evs st (PostW K H w st Q)
theorem abs_eq (i : Int) : (if i < 0 then -i else i) = ((i.natAbs : Nat) : Int) := by split <;> omega
theorem max_eq (i j : Int) : (if j > i then j else i) = max i j := by
  rw [Int.max_def]
  split <;> split <;> omega
theorem min_eq (i j : Int) : (if j < i then j else i) = min i j := by
  rw [Int.min_def]
  split <;> split <;> omega
section
variable {X : Cx}
theorem call_blt (xo : XOk X) (b : Blt) (kd : Nat) : CallR X (bltV b) (rBlt X.K b kd) := by
  intro pins s σ H xs us Q I r h
  obtain ⟨w, st, evs, ok, er, q⟩ := h
  unfold bltK at q
  split at q
  · obtain ⟨v, rfl, r1⟩ := evreps1 er
    cases (show Rep _ _ _ v _ from r1)
    exact call_len pins s σ H _ us Q I r ⟨_, _, rfl, ⟨q.1, rfl⟩, q.2 _ H w Le.refl ok (.int _)⟩
  · obtain ⟨v, rfl, r1⟩ := evreps1 er
    obtain ⟨b, ds, a, ys, rfl, h1, h2, h3, h4⟩ := seq_rep ok r1 q
    have e := h3.length
    cases b with
    | true => exact call_len pins s σ H _ us Q I r ⟨_, _, rfl, .inl ⟨_, h1 rfl, rfl⟩, h4 _ H w Le.refl ok (by rw [e]; exact Rep.int _)⟩
    | false => exact call_len pins s σ H _ us Q I r ⟨_, _, rfl,   .inr ⟨_, (h2 rfl).1, rfl⟩, h4 _ H w Le.refl ok (by rw [e]; exact Rep.int _)⟩
  · obtain ⟨v, rfl, r1⟩ := evreps1 er
    cases (show Rep _ _ _ v _ from r1)
    exact call_abs pins s σ H _ us Q I r ⟨_, rfl, q _ H w Le.refl ok (by rw [abs_eq]; exact Rep.int _)⟩
  · obtain ⟨v, rfl, r1⟩ := evreps1 er
    cases (show Rep _ _ _ v _ from r1)
    exact call_int1 pins s σ H _ us Q I r (.inl ⟨_, rfl, q _ H w Le.refl ok (Rep.int _)⟩)
  · obtain ⟨v, rfl, r1⟩ := evreps1 er
    cases (show Rep _ _ _ v _ from r1)
    exact call_int1 pins s σ H _ us Q I r (.inr ⟨_, rfl, q _ H w Le.refl ok (Rep.int _)⟩)
  · obtain ⟨v, u, rfl, r1, r2⟩ := evreps2 er
    cases (show Rep _ _ _ v _ from r1)
    cases (show Rep _ _ _ u _ from r2)
    exact call_min2 xo.calm pins s σ H _ us Q I r ⟨_, _, rfl, q _ H w Le.refl ok (by rw [min_eq]; exact Rep.int _)⟩
  · obtain ⟨v, u, rfl, r1, r2⟩ := evreps2 er
    cases (show Rep _ _ _ v _ from r1)
    cases (show Rep _ _ _ u _ from r2)
    exact call_max2 xo.calm pins s σ H _ us Q I r ⟨_, _, rfl, q _ H w Le.refl ok (by rw [max_eq]; exact Rep.int _)⟩
  · obtain ⟨v, u, rfl, r1, r2⟩ := evreps2 er
    cases (show Rep _ _ _ v _ from r1)
    cases (show Rep _ _ _ u _ from r2)
    exact cr_gcd pins s σ H _ us Q I r ⟨_, _, rfl, q _ H w Le.refl ok (Rep.int _)⟩
  · obtain ⟨v, rfl, r1⟩ := evreps1 er
    obtain ⟨b, ds, a, ys, rfl, h1, h2, h3, hb, h4⟩ := seq_rep ok r1 q
    obtain ⟨bs, e, h4⟩ := bools_rep h3 h4
    subst e
    exact cr_all xo.calm pins s σ H _ us Q I r ⟨_, _, rfl, h1 hb, h4 _ H w Le.refl ok (Rep.bl _)⟩
  · obtain ⟨v, rfl, r1⟩ := evreps1 er
    obtain ⟨b, ds, a, ys, rfl, h1, h2, h3, hb, h4⟩ := seq_rep ok r1 q
    obtain ⟨bs, e, h4⟩ := bools_rep h3 h4
    subst e
    exact cr_any xo.calm pins s σ H _ us Q I r ⟨_, _, rfl, h1 hb, h4 _ H w Le.refl ok (Rep.bl _)⟩
  · obtain ⟨v, rfl, r1⟩ := evreps1 er
    obtain ⟨b, ds, a, ys, rfl, h1, h2, h3, h4⟩ := seq_rep ok r1 q
    cases b with
    | true =>
      refine call_tuple_of pins s σ H _ us Q I r ⟨_, _, rfl, .inl ⟨h1 rfl, fun l n => ?_⟩⟩
      obtain ⟨x, y, z⟩ := new_tup n ok h3
      exact h4 _ _ w x y z
    | false =>
      obtain ⟨g1, g2⟩ := h2 rfl
      subst g2
      exact call_tuple_of pins s σ H _ us Q I r ⟨_, _, rfl, .inr ⟨g1, h4 _ H w Le.refl ok r1⟩⟩
  · obtain ⟨v, rfl, r1⟩ := evreps1 er
    obtain ⟨b, ds, a, ys, rfl, h1, h2, h3, h4⟩ := seq_rep ok r1 q
    have hs : SqL X.K H a ys ∨ SqT X.K H a ys := by
      cases b with
      | true => exact .inl (h1 rfl)
      | false => exact .inr (h2 rfl).1
    refine call_list_of pins s σ H _ us Q I r ⟨_, _, rfl, hs, fun l n => ?_⟩
    obtain ⟨ev, w', st', x, y, z, h⟩ := new_lst n ok h3 h4
    exact h _ _ w' x y z
  · obtain ⟨v, rfl, r1⟩ := evreps1 er
    exact call_reprD xo pins s σ H _ us Q I r ⟨_, _, rfl, Rep.dp r1, q.1, q.2 _ H w Le.refl ok (Rep.str _)⟩
  · exact q.elim
end
end VI

/-! VI7: the call of a def, in frames that are under no guard. -/
namespace VI
open PySem PySem.Spec PyProof.Rows L2
/-- a def's promise by its meaning -/
def spG (K : PySem.W.Frag) (ar : Nat) (f : Sem) : Sp := fun vs H Q _ => vs.length = ar ∧ ∃ w g evs, w.la = [] ∧ WOk K H w ⟨g, []⟩ ∧ EVReps K H w ⟨g, []⟩ vs evs ∧
  f evs g fun ev g' => ∀ v H' w', w'.la = [] → Le H w ⟨g, []⟩ H' w' ⟨g', []⟩ → WOk K H' w' ⟨g', []⟩ → EVRep K H' w' ⟨g', []⟩ v ev → Q v H'
structure FnOkG (P : Program) (w : World) (K : PySem.W.Frag) (mg : Str → Option Value) (base : Heap) (k : Nat) (f : Addr) (fd : FuncData) (ps : List Str) (sp : Sp) : Prop where
  len : ∀ vs H Q E, sp vs H Q E → vs.length = ps.length
  run : ∀ (A : Around) (outer : List Env) (s : Shared) (H : Hp) (args : Args) (us : List Value) (vs : List V) (Q : VK) (E : XK), Room k A → A.guards = some [] → Env0 P w K mg base A outer s H → BindsTo s fd args (ps.zip us) → Vals vs us → sp vs H Q E →
    codeAny (model P w) A (.call (.ref f) args) (CR CX0 outer P w H s Q E) s
section
variable {X : Cx} {k : Nat} {f : Addr} {fd : FuncData} {ps : List Str} {sp : Sp} {x : Str} {p pos : Pos} {e : Expr} {es : List Expr} {t : TA}
theorem run_fnG {pins : List (Addr × Obj)} {σ : L2.St} {H : Hp} {s : Shared} {Q : VK} {us : List Value} {vs : List V} (F : FnOkG X.prog X.w X.K X.mg X.base k f fd ps sp) (hr : Room k X.A) (hg : X.A.guards = some []) (hb : Binds X.K fd ps [])
    (I : Inv X pins σ H s) (r : Vals vs us) (h : sp vs H Q E0) : wpAny (model X.prog X.w) X.A (call (.ref f) us) (EP X pins σ Q) X.xe s := by
  have hl : (us ++ []).length = ps.length := by rw [List.append_nil, ← r.length]; exact F.len _ _ _ _ h
  have hb2 := hb s us I.kIn hl
  rw [List.append_nil] at hb2
  refine wpAny_call (codeAny_mono (F.run X.A X.stack s H ⟨us, []⟩ us vs Q E0 hr hg I.env0 hb2 r h) fun r s' hq => ?_)
  cases r with
  | error e => exact False.elim hq
  | ok fl =>
    cases fl with
    | ret u => exact I.after hq
    | next => exact False.elim hq
    | brk => exact False.elim hq
    | cont => exact False.elim hq
theorem pe_callG (F : FnOkG X.prog X.w X.K X.mg X.base k f fd ps sp) (hr : Room k X.A) (hgd : X.A.guards = some []) (hg : Gl X x) (hm : X.mg x = some (.ref f)) (hk : PySem.W.keepIn X.K (.ref f) = true) (hb : Binds X.K fd ps [])
    (ha : PA X (e :: es) t) (hdb : (x == ("__debug__" : Str)) = false) (he : starEach (e :: es) X.env = (false, eval e X.env) :: starEach es X.env) (hpl : (backTo pos (starEach es X.env)).any (·.1) = false) :
    PE X (.Call (.Name x p) (e :: es) [] pos) (tCall sp [] E0 t) := by
  refine ⟨fun pins s σ H Q I h => ?_⟩
  refine wpAny_Call_Name_kw (ld_glob I hg hm ?_ hdb)
  refine PySem.W.callWith_K (h₀ := X.base) I.ok.mod.kin hk (thn (ha.run pos pins s σ H _ I h) fun us s1 ⟨vs, H1, I1, r, q⟩ => ⟨I1.kIn, ?_⟩) he hpl
  have q : sp (vs ++ []) H1 Q E0 := q
  rw [List.append_nil] at q
  exact run_fnG F hr hgd hb I1 r q
theorem pe_callG0 (F : FnOkG X.prog X.w X.K X.mg X.base k f fd ps sp) (hr : Room k X.A) (hgd : X.A.guards = some []) (hg : Gl X x) (hm : X.mg x = some (.ref f)) (hk : PySem.W.keepIn X.K (.ref f) = true) (hb : Binds X.K fd ps [])
    (hdb : (x == ("__debug__" : Str)) = false) : PE X (.Call (.Name x p) [] [] pos) (tCall sp [] E0 tNil) := by
  refine ⟨fun pins s σ H Q I h => ?_⟩
  refine wpAny_Call_Name_kw (ld_glob I hg hm ?_ hdb)
  exact PySem.W.callWith_K0 I.kIn hk (run_fnG (us := []) F hr hgd hb I .nil h)
end
/-! ### from a frame's world to a callee's -/
def Wd.inner (w : Wd) (st : Sto) : Wd := ⟨w.mu, [], fun a => w.F a ∨ ∃ (n : Nat) (xs : List D), w.la[n]? = some a ∧ st.l[n]? = some (some xs)⟩
section
variable {K : PySem.W.Frag} {H H1 : Hp} {w w1 : Wd} {st st1 : Sto} {g : List (List D)}
theorem inner_M {a : Addr} : (w.inner st).M ⟨st.g, []⟩ a ↔ w.M st a := by
  unfold Wd.M Wd.inner
  simp only [List.getElem?_nil, reduceCtorEq, false_and, exists_false, false_or]
  constructor
  · rintro (h | h | h)
    · exact .inl h
    · exact .inr (.inr h)
    · exact .inr (.inl h)
  · rintro (h | h | h)
    · exact .inl h
    · exact .inr (.inr h)
    · exact .inr (.inl h)
theorem nodup_parts {α : Type} {l m : List α} (h : (l ++ m).Nodup) {a : α} (h1 : a ∈ l) (h2 : a ∈ m) : False := by
  rw [List.nodup_append] at h
  exact h.2.2 a h1 a h2 rfl
theorem nodup_ix {α : Type} : ∀ {l : List α} {i j : Nat} {a : α}, l.Nodup → l[i]? = some a → l[j]? = some a → i = j
  | [], _, _, _, _, h, _ => by simp at h
  | x :: r, 0, 0, _, _, _, _ => rfl
  | x :: r, 0, j + 1, a, n, h1, h2 => by
    simp at h1 h2
    subst h1
    exact absurd (List.mem_iff_getElem?.mpr ⟨j, h2⟩) (List.nodup_cons.mp n).1
  | x :: r, i + 1, 0, a, n, h1, h2 => by
    simp at h1 h2
    subst h2
    exact absurd (List.mem_iff_getElem?.mpr ⟨i, h1⟩) (List.nodup_cons.mp n).1
  | x :: r, i + 1, j + 1, a, n, h1, h2 => by
    have := nodup_ix (i := i) (j := j) (List.nodup_cons.mp n).2 (by simpa using h1) (by simpa using h2)
    omega
theorem WOk.inner (ok : WOk K H w st) : WOk K H (w.inner st) ⟨st.g, []⟩ := by
  refine ⟨ok.lg, rfl, fun n xs h => ?_, fun n xs h => ?_, fun n a h => ?_, ?_, fun a h => ?_⟩
  · obtain ⟨a, vs, e, z, r⟩ := ok.g n xs h
    exact ⟨a, vs, e, z, r.conv fun b o hb m => ⟨hb, fun q => m (inner_M.mp q)⟩⟩
  · simp at h
  · simp at h
  · show (w.mu ++ []).Nodup
    rw [List.append_nil]
    exact ok.nd.sublist (List.sublist_append_left _ _)
  · rcases h with h | ⟨n, xs, h, h2⟩
    · obtain ⟨q1, q2, _⟩ := ok.fF a h
      exact ⟨q1, q2, fun z => by cases z⟩
    · obtain ⟨a', vs, e, z, _⟩ := ok.l n xs h2
      rw [h] at e
      cases e
      exact ⟨⟨_, z⟩, fun m => nodup_parts ok.nd m (List.mem_iff_getElem?.mpr ⟨n, h⟩), fun z => by cases z⟩
theorem EVReps.inner : ∀ {vs : List V} {evs : List EV} {p : Prop}, EVReps K H w st vs evs → argsK evs p → EVReps K H (w.inner st) ⟨st.g, []⟩ vs evs ∧ p
  | _, _, _, .nil, h => ⟨.nil, h⟩
  | _, _, _, .cons (d := .d x) r t, h => let ⟨q, h⟩ := EVReps.inner t h; ⟨.cons (show Rep K H _ _ x from Rep.conv (fun b o hb m => ⟨hb, fun q => m (inner_M.mp q)⟩) r) q, h⟩
  | _, _, _, .cons (d := .gm n) r t, h => let ⟨q, h⟩ := EVReps.inner t h; ⟨.cons (show EVRep K H _ _ _ (.gm n) from r) q, h⟩
  | _, _, _, .cons (d := .sc ds) r t, h => by
    obtain ⟨q, h⟩ := EVReps.inner t h
    obtain ⟨a, xs, e, f, z⟩ := r
    exact ⟨.cons ⟨a, xs, e, f.conv fun b o hb m => ⟨hb, fun q => m (inner_M.mp q)⟩, z.conv fun b o hb m => ⟨hb, fun q => m (inner_M.mp q)⟩⟩ q, h⟩
  | _, _, _, .cons (d := .lm n) _ _, h => h.elim
/-- behind the call -/
theorem outer_of (ok : WOk K H w st) (hl : w1.la = []) (le : Le H (w.inner st) ⟨st.g, []⟩ H1 w1 ⟨g, []⟩) (ok1 : WOk K H1 w1 ⟨g, []⟩) :
    Le H w st H1 ⟨w1.mu, w.la, w.F⟩ ⟨g, st.l⟩ ∧ WOk K H1 ⟨w1.mu, w.la, w.F⟩ ⟨g, st.l⟩ ∧ ∀ v ev, EVRep K H1 w1 ⟨g, []⟩ v ev → EVRep K H1 ⟨w1.mu, w.la, w.F⟩ ⟨g, st.l⟩ v ev := by
  have hF : w1.F = fun a => w.F a ∨ ∃ (n : Nat) (xs : List D), w.la[n]? = some a ∧ st.l[n]? = some (some xs) := le.F
  have hM : ∀ a, Wd.M ⟨w1.mu, w.la, w.F⟩ ⟨g, st.l⟩ a ↔ w1.M ⟨g, []⟩ a := fun a => by
    unfold Wd.M
    simp only [List.getElem?_nil, reduceCtorEq, and_false, exists_false, false_or]
    rw [hF]
    constructor
    · rintro (h | h | h)
      · exact .inl h
      · exact .inr (.inr h)
      · exact .inr (.inl h)
    · rintro (h | h | h)
      · exact .inl h
      · exact .inr (.inr h)
      · exact .inr (.inl h)
  have lee : Le H w st H1 ⟨w1.mu, w.la, w.F⟩ ⟨g, st.l⟩ :=
    ⟨rfl, le.mu, ⟨[], by simp⟩, fun a o h m => let z := le.fr a o h (fun q => m (inner_M.mp q)); ⟨z.1, fun q => z.2 ((hM a).mp q)⟩, fun a h => le.fo a (.inl h)⟩
  have dead : ∀ (n : Nat) a, w.la[n]? = some a → st.l[n]? = some none → ¬ w.M st a := fun n a h h2 m => by
    have hmem : a ∈ w.la := List.mem_iff_getElem?.mpr ⟨n, h⟩
    rcases m with m | ⟨i, xs, m, m2⟩ | m
    · exact nodup_parts ok.nd m hmem
    · have : n = i := nodup_ix (ok.nd.sublist (List.sublist_append_right _ _)) h m
      subst this
      rw [h2] at m2
      cases m2
    · exact (ok.fF a m).2.2 hmem
  refine ⟨lee, ⟨ok1.lg, ok.ll, fun n xs h => ?_, fun n xs h => ?_, fun n a h e => ?_, ?_, fun a h => ?_⟩, fun v ev r => ?_⟩
  · obtain ⟨a, vs, e, z, r⟩ := ok1.g n xs h
    exact ⟨a, vs, e, z, r.conv fun b o hb m => ⟨hb, fun q => m ((hM b).mp q)⟩⟩
  · obtain ⟨a, vs, e, z, r⟩ := ok.l n xs h
    exact ⟨a, vs, e, by rw [le.fo a (.inr ⟨n, xs, e, h⟩)]; exact z, r.le lee⟩
  · obtain ⟨o, z⟩ := ok.fz n a h e
    exact ⟨o, (lee.fr a _ z (dead n a e h)).1⟩
  · show (w1.mu ++ w.la).Nodup
    have n1 : w1.mu.Nodup := by
      have := ok1.nd
      rw [hl, List.append_nil] at this
      exact this
    rw [List.nodup_append]
    refine ⟨n1, ok.nd.sublist (List.sublist_append_right _ _), fun a ha b hb e => ?_⟩
    subst e
    obtain ⟨n, hn⟩ := List.mem_iff_getElem?.mp hb
    have hlt : n < st.l.length := by rw [← ok.ll]; exact (List.getElem?_eq_some_iff.mp hn).1
    have hs : st.l[n]? = some st.l[n] := List.getElem?_eq_getElem hlt
    cases q : st.l[n] with
    | none =>
      rw [q] at hs
      obtain ⟨o, z⟩ := ok.fz n a hs hn
      exact (le.fr a _ z fun m => dead n a hn hs (inner_M.mp m)).2 (.inl ha)
    | some xs =>
      rw [q] at hs
      exact (ok1.fF a (by rw [hF]; exact .inr ⟨n, xs, hn, hs⟩)).2.1 ha
  · obtain ⟨q1, q2, _⟩ := ok1.fF a (by rw [hF]; exact .inl h)
    exact ⟨q1, q2, (ok.fF a h).2.2⟩
  · cases ev with
    | d x => exact Rep.conv (fun b o hb m => ⟨hb, fun q => m ((hM b).mp q)⟩) r
    | lm n =>
      obtain ⟨a, e, h⟩ := r
      rw [hl] at h
      simp at h
    | gm n => exact r
    | sc ds =>
      obtain ⟨a, xs, e, f, z⟩ := r
      exact ⟨a, xs, e, f.conv fun b o hb m => ⟨hb, fun q => m ((hM b).mp q)⟩, z.conv fun b o hb m => ⟨hb, fun q => m ((hM b).mp q)⟩⟩
end
end VI

/-! VI8: the check of a text against a piece of the small language; readings by the meaning; parts of the soundness. -/
namespace VI
open PySem PySem.Spec PyProof.Rows L2
/-! ### the check -/
structure Ctx where
  N : List Str
  sc : Scope
  fn : Str → Bool
  fns : List (Str × Nat)
  gls : List Str
  gcd : Bool
def okNm (x : Str) : Bool := !(x == ("__debug__" : Str)) && (!(x == ("__classdict__" : Str)) && decide (x ≠ "__name__"))
def visB (sc : Scope) (x : Str) : Bool := match sc.names.lookup x with
  | some .local => true
  | some .cell => true
  | some .free => true
  | _ => false
def isLoc (sc : Scope) (x : Str) : Bool := match sc.names.lookup x with
  | some .local => true
  | _ => false
def locB (sc : Scope) (x : Str) : Bool := match sc.names.lookup x with
  | some .local => true
  | some .cell => true
  | _ => false
def glB (sc : Scope) (x : Str) : Bool := match sc.names.lookup x with
  | some .globalImplicit => true
  | _ => false
/-- a test of such a form is its value's truth -/
def plainT : Expr → Bool
  | .BinOp .. => true
  | .Call .. => true
  | .Constant .. => true
  | .Subscript .. => true
  | .Name .. => true
  | .List .. => true
  | .Tuple .. => true
  | _ => false
def notStar : Expr → Bool
  | .Starred .. => false
  | _ => true
def notSet : Expr → Bool
  | .Set .. => false
  | _ => true
def notSlice : Expr → Bool
  | .Slice .. => false
  | _ => true
structure CK where
  e : Expr → Bool
  t : Expr → Bool
  l : List Expr → Bool
  i : Expr → Expr → Bool
  g : Expr → Bool
  gl : List Expr → Bool
  o : Option Expr → Bool
def noCK : CK where
  e := fun _ => false
  t := fun _ => false
  l := fun _ => false
  i := fun _ _ => false
  g := fun _ => false
  gl := fun _ => false
  o := fun _ => false
def ckE (f : Expr → Bool) : CK where
  e := f
  t := fun e => f e && plainT e
  l := fun _ => false
  i := fun _ it => f it
  g := fun _ => false
  gl := fun _ => false
  o := fun o => match o with
    | some e => f e
    | none => false
def ckB (f : Expr → Bool) : CK := { noCK with
  e := f
  t := f }
def bltN : Blt → Str
  | .len => "len" | .abs => "abs" | .int => "int" | .min2 => "min" | .max2 => "max" | .gcd => "gcd" | .all => "all" | .any => "any" | .tuple => "tuple" | .list => "list" | .repr => "repr"
def slotsOf : IE → List Nat
  | .var i => [i]
  | .tup r => slotsOf r
  | .cons a r => slotsOf a ++ slotsOf r
  | _ => []
def isNil : IE → Bool
  | .nil => true
  | _ => false
def uNot (f : Expr → Bool) : Expr → Bool
  | .UnaryOp .Not x _ => f x
  | _ => false
def bAnd (f g : Expr → Bool) : Expr → Bool
  | .BoolOp .And [x, y] _ => f x && g y
  | .BoolOp .And (x :: y :: z :: r) p => f x && g (.BoolOp .And (y :: z :: r) p)
  | _ => false
def bOr (f g : Expr → Bool) : Expr → Bool
  | .BoolOp .Or [x, y] _ => f x && g y
  | .BoolOp .Or (x :: y :: z :: r) p => f x && g (.BoolOp .Or (y :: z :: r) p)
  | _ => false
def ck : IE → Ctx → CK
  | .cst d, _ => ckE fun e => match d, e with
    | .int i, .Constant (.int j) _ _ => decide (i = j)
    | .bool b, .Constant (.bool c) _ _ => b == c
    | .str x, .Constant (.str y) _ _ => decide (x = y)
    | .none, .Constant .none _ _ => true
    | _, _ => false
  | .var i, c => { ckE (fun e => match e with
      | .Name x _ => decide (c.N[i]? = some x) && (visB c.sc x && okNm x)
      | _ => false) with
      g := fun e => match e with
        | .Name x _ => decide (c.N[i]? = some x) && (locB c.sc x && (c.fn x || isLoc c.sc x))
        | _ => false }
  | .glo n, c => ckE fun e => match e with
      | .Name x _ => decide (c.gls[n]? = some x) && (glB c.sc x && okNm x)
      | _ => false
  | .bin o a b, c => ckE fun e => match e with
      | .BinOp l op r _ => decide (op = opA o) && ((ck a c).e l && (ck b c).e r)
      | _ => false
  | .neg a, c => ckE fun e => match e with
      | .UnaryOp .USub x _ => (ck a c).e x
      | _ => false
  | .nt a, c => { noCK with
      e := uNot (ck a c).e
      t := uNot (ck a c).t }
  | .cmp o a b, c => ckB fun e => match e with
      | .Compare l [op] [r] _ => decide (op = opC o) && ((ck a c).e l && ((ck b c).e r && notSet r))
      | _ => false
  | .cmp2 o p a b d, c => ckB fun e => match e with
      | .Compare l [op, op2] [m, r] _ => decide (op = opC o) && (decide (op2 = opC p) && ((ck a c).e l && ((ck b c).e m && ((ck d c).e r && notSet r))))
      | _ => false
  | .isN a, c => ckB fun e => match e with
      | .Compare l [.Is] [.Constant .none _ _] _ => (ck a c).e l
      | _ => false
  | .notN a, c => ckB fun e => match e with
      | .Compare l [.IsNot] [.Constant .none _ _] _ => (ck a c).e l
      | _ => false
  | .an a b, c => { noCK with
      e := bAnd (ck a c).e (ck b c).e
      t := bAnd (ck a c).t (ck b c).t }
  | .oo a b, c => { noCK with
      e := bOr (ck a c).e (ck b c).e
      t := bOr (ck a c).t (ck b c).t }
  | .ife t a b, c => ckE fun e => match e with
      | .IfExp q x y _ => (ck t c).t q && ((ck a c).e x && (ck b c).e y)
      | _ => false
  | .nil, _ => { noCK with
      l := fun es => es.isEmpty
      gl := fun es => es.isEmpty
      o := fun o => o.isNone }
  | .cons a r, c => { noCK with
      l := fun es => match es with
        | e :: es => notStar e && ((ck a c).e e && (ck r c).l es)
        | _ => false
      gl := fun es => match es with
        | e :: es => notStar e && ((ck a c).g e && (ck r c).gl es)
        | _ => false }
  | .tup r, c => { ckE (fun e => match e with
      | .Tuple es _ _ => decide (es.length ≤ 1000) && (ck r c).l es
      | _ => false) with
      g := fun e => match e with
        | .Tuple es _ _ => (ck r c).gl es
        | _ => false }
  | .lst kd r, c => ckE fun e => match e with
      | .List es _ => decide (es.length ≤ 1000) && (ck r c).l es
      | _ => false
  | .ixc a n, c => ckE fun e => match e with
      | .Subscript x (.Constant (.int j) _ _) _ => decide (j = (n : Nat)) && (ck a c).e x
      | _ => false
  | .ix a i, c => ckE fun e => match e with
      | .Subscript x y _ => notSlice y && ((ck a c).e x && (ck i c).e y)
      | _ => false
  | .sl kd a lo hi, c => ckE fun e => match e with
      | .Subscript x (.Slice l h none _) _ => (ck a c).e x && ((ck lo c).o l && (ck hi c).o h)
      | _ => false
  | .call n r, c => ckE fun e => match e with
      | .Call (.Name f _) es [] _ => decide (c.fns[n]? = some (f, es.length)) && (glB c.sc f && (okNm f && (ck r c).l es))
      | _ => false
  | .blt b kd r, c => ckE fun e => match e with
      | .Call (.Name f _) (e :: es) [] _ => decide (f = bltN b) && ((c.gcd || decide (b ≠ .gcd)) && (glB c.sc f && (ck r c).l (e :: es)))
      | _ => false
  | .cmpr kd own tg it t e, c => ckE fun x => match x with
      | .ListComp elt [⟨tgx, itx, ifs, a⟩] scope _ =>
        let c' : Ctx := { c with sc := relS scope c.sc, fn := fun x => scope.names.lookup x == some .cell }
        decide (a = 0) && (blkC c.N c.sc scope (own.map fun i => (c.N.getD i Str.empty, i)) && ((ck it c).i tgx itx && (notSet itx && ((ck tg c').g tgx && ((slotsOf tg).all (fun i => decide (i ∈ own)) && ((match ifs with
          | [] => isNil t
          | [y] => !isNil t && (ck t c').t y
          | _ => false) && (ck e c').e elt))))))
      | _ => false
  | .rng r, c => { noCK with i := fun _ it => match it with
      | .Call (.Name f _) [x] [] _ => decide (f = "range") && (glB c.sc f && (ck r c).l [x])
      | .Call (.Name f _) [x, y] [] _ => decide (f = "range") && (glB c.sc f && (ck r c).l [x, y])
      | _ => false }
  | .enm r, c => { noCK with i := fun tg it => match tg, it with
      | .Tuple _ _ _, .Call (.Name f _) [x] [] _ => decide (f = "enumerate") && (glB c.sc f && (ck r c).l [x])
      | _, _ => false }
  | .zp r, c => { noCK with i := fun tg it => match tg, it with
      | .Tuple _ _ _, .Call (.Name f _) [x, y] [] _ => decide (f = "zip") && (glB c.sc f && (ck r c).l [x, y])
      | _, _ => false }
/-! ### the readings -/
section
variable (K : PySem.W.Frag) (tb : Tb) (ie : IE)
abbrev TEs : TE := fun σ H Q => ∃ w st env, WOk K H w st ∧ EnvRep K H w st σ env ∧ (sem tb ie).e env st (PostW K H w st Q)
abbrev TTs : TT := fun σ H Q => ∃ w st env, WOk K H w st ∧ EnvRep K H w st σ env ∧ (sem tb ie).t env st fun b st' => ∀ H' w', Le H w st H' w' st' → WOk K H' w' st' → Q b H'
abbrev TLs (n : Nat) : TA := fun σ H Q => ∃ w st env, WOk K H w st ∧ EnvRep K H w st σ env ∧ (sem tb ie).l env st fun evs st' => ∀ vs H' w', Le H w st H' w' st' → WOk K H' w' st' → EVReps K H' w' st' vs evs → vs.length = n → Q vs H'
abbrev TOs : TO := fun σ H Q => ∃ w st env, WOk K H w st ∧ EnvRep K H w st σ env ∧ (sem tb ie).o env st fun b st' => ∀ H' w', Le H w st H' w' st' → WOk K H' w' st' → Q b H'
/-- what an iterator yields -/
def Fr (H : Hp) (w : Wd) (st : Sto) (H' : Hp) (w' : Wd) (st' : Sto) : Prop := ∀ a o, H a = some o → ¬ w.M st a → H' a = some o ∧ ¬ w'.M st' a
def Ys (J : It) (H0 : Hp) (w0 : Wd) (st0 : Sto) (xs : List D) : Prop := ∀ H w st, Fr H0 w0 st0 H w st → WOk K H w st → ∀ i : Nat, (xs.length ≤ i → J.stop i H) ∧ ∀ x, xs[i]? = some x → J.go i H ∧ ∀ v H', J.yld i H v H' → Le H w st H' w st ∧ WOk K H' w st ∧ Rep K H' (w.M st) v x
abbrev TIs : TI := fun σ H R => ∃ w st env, WOk K H w st ∧ EnvRep K H w st σ env ∧ (sem tb ie).i env st fun xs st' => ∀ J H' w', Le H w st H' w' st' → WOk K H' w' st' → Ys K J H' w' st' xs → R J H'
def Chg (vs : List Nat) (σ σ' : L2.St) : Prop := σ'.length = σ.length ∧ ∀ j : Nat, j ∉ vs → σ'[j]? = σ[j]?
abbrev TGs1 : TG := fun v σ H Q => ∃ w st env ev, WOk K H w st ∧ EnvRep K H w st σ env ∧ EVRep K H w st v ev ∧ (sem tb ie).a ev env fun env' => ∀ σ', EnvRep K H w st σ' env' → Chg (slotsOf ie) σ σ' → Q σ' H
abbrev TGsL (n : Nat) : L2.TGs := fun vs σ H Q => ∃ w st env ds, WOk K H w st ∧ EnvRep K H w st σ env ∧ Reps K H (w.M st) vs ds ∧ vs.length = n ∧ (sem tb ie).al ds env fun env' => ∀ σ', EnvRep K H w st σ' env' → Chg (slotsOf ie) σ σ' → Q σ' H
end
theorem Chg.refl {vs : List Nat} {σ : L2.St} : Chg vs σ σ := ⟨rfl, fun _ _ => rfl⟩
theorem Chg.trans {a b : List Nat} {σ σ1 σ2 : L2.St} (h1 : Chg a σ σ1) (h2 : Chg b σ1 σ2) : Chg (a ++ b) σ σ2 :=
  ⟨h2.1.trans h1.1, fun j hj => (h2.2 j fun z => hj (List.mem_append_right _ z)).trans (h1.2 j fun z => hj (List.mem_append_left _ z))⟩
/-! ### what the context holds -/
structure CallOk (X : Cx) (name : Str) (ar : Nat) (f : Sem) : Prop where
  ok : ∃ (fa : Addr) (fd : FuncData) (ps : List Str) (k : Nat), FnOkG X.prog X.w X.K X.mg X.base k fa fd ps (spG X.K ar f) ∧ Room k X.A ∧ X.mg name = some (.ref fa) ∧ PySem.W.keepIn X.K (.ref fa) = true ∧ Binds X.K fd ps []
def bltNames : List Str := ["len", "abs", "int", "min", "max", "all", "any", "tuple", "list", "repr", "range", "enumerate", "zip"]
structure CxOk (tb : Tb) (c : Ctx) (X : Cx) : Prop where
  xo : XOk X
  mono : tb.Mono
  N : X.N = c.N
  nd : X.N.Nodup
  sc : X.env.scope = c.sc
  fn : ∀ x, c.fn x = true → X.fn x = true
  fns : c.fns = tb.fn.map fun q => (q.1, q.2.1)
  gls : c.gls = tb.gl.map (·.1)
  ok : ∀ (n : Nat) q, tb.fn[n]? = some q → CallOk X q.1 q.2.1 q.2.2
  gk : ∀ (n : Nat) q, tb.gl[n]? = some q → ∃ u v, X.mg q.1 = some u ∧ RelV v u ∧ ∀ H M, Rep X.K H M v q.2
  mgn : ∀ x ∈ bltNames, X.mg x = none
  gcd : c.gcd = true → X.mg "gcd" = some (.builtin "math.gcd")
theorem vis_of {X : Cx} {sc : Scope} {x : Str} (e : X.env.scope = sc) (h : visB sc x = true) : Vis X.env.scope x := by
  rw [e]
  unfold visB at h
  unfold Vis
  split at h
  · exact .inl (by assumption)
  · exact .inr (.inl (by assumption))
  · exact .inr (.inr (by assumption))
  · cases h
theorem loc_of {X : Cx} {sc : Scope} {x : Str} (e : X.env.scope = sc) (h : locB sc x = true) : L2.Loc X.env.scope x := by
  rw [e]
  unfold locB at h
  unfold L2.Loc
  split at h
  · exact .inl (by assumption)
  · exact .inr (by assumption)
  · cases h
theorem isLoc_of {X : Cx} {sc : Scope} {x : Str} (e : X.env.scope = sc) (h : isLoc sc x = true) : X.env.scope.names.lookup x = some .local := by
  rw [e]
  unfold isLoc at h
  split at h
  · assumption
  · cases h
theorem gl_of {X : Cx} {sc : Scope} {x : Str} (e : X.env.scope = sc) (h : glB sc x = true) : Gl X x := by
  unfold Gl Env.kindOf
  rw [e]
  unfold glB at h
  split at h
  · assumption
  · cases h
theorem okNm_of {x : Str} (h : okNm x = true) : (x == ("__debug__" : Str)) = false ∧ (x == ("__classdict__" : Str)) = false ∧ x ≠ "__name__" := by
  unfold okNm at h
  simp only [Bool.and_eq_true, Bool.not_eq_true', decide_eq_true_eq] at h
  exact h
theorem star_of {e : Expr} {es : List Expr} {env : Env} (h : notStar e = true) : starEach (e :: es) env = (false, eval e env) :: starEach es env := by
  cases e <;> first | rfl | cases h
theorem marks_of {e : Expr} {op : CmpOp} (h : notSet e = true) : behindInMarks op e = false := by
  cases e <;> first | rfl | cases h
theorem marks2_of {b e : Expr} {op op2 : CmpOp} (h : notSet e = true) : lastMarks [op, op2] [b, e] = false := marks_of h
theorem fold_of {e : Expr} {env : Env} (h : notSet e = true) : ∀ x, foldedSetIterable e env x = pure x := by
  intro x
  cases e <;> first | rfl | cases h
theorem plainIx_of {e : Expr} (h : notSlice e = true) : PlainIx e := by
  intro o i
  cases e <;> first | rfl | cases h
theorem plainT_of {e : Expr} {env : Env} (h : plainT e = true) : ∀ whole, isTrue e env whole = (do let v ← whole; standAt e.pos; holding [v] (truthy v)) := by
  intro whole
  cases e <;> first | rfl | cases h
section
variable {K : PySem.W.Frag} {tb : Tb} {H : Hp} {w : Wd} {st : Sto} {σ : L2.St} {env : En}
theorem bE (ht : tb.Mono) (ie : IE) (ok : WOk K H w st) (er : EnvRep K H w st σ env) {k : KE} (h : (sem tb ie).e env st k) {Q : VK} (c : ∀ ev st', k ev st' → PostW K H w st Q ev st') : TEs K tb ie σ H Q :=
  ⟨w, st, env, ok, er, (sem_mono ht ie).e _ _ _ _ c h⟩
theorem bT (ht : tb.Mono) (ie : IE) (ok : WOk K H w st) (er : EnvRep K H w st σ env) {k : Bool → Sto → Prop} (h : (sem tb ie).t env st k) {Q : Bool → Hp → Prop} (c : ∀ b st', k b st' → ∀ H' w', Le H w st H' w' st' → WOk K H' w' st' → Q b H') : TTs K tb ie σ H Q :=
  ⟨w, st, env, ok, er, (sem_mono ht ie).t _ _ _ _ c h⟩
theorem bL (ht : tb.Mono) (ie : IE) {n : Nat} (ok : WOk K H w st) (er : EnvRep K H w st σ env) {k : List EV → Sto → Prop} (h : (sem tb ie).l env st k) {Q : List V → Hp → Prop} (c : ∀ evs st', k evs st' → ∀ vs H' w', Le H w st H' w' st' → WOk K H' w' st' → EVReps K H' w' st' vs evs → vs.length = n → Q vs H') : TLs K tb ie n σ H Q :=
  ⟨w, st, env, ok, er, (sem_mono ht ie).l _ _ _ _ c h⟩
theorem bO (ht : tb.Mono) (ie : IE) (ok : WOk K H w st) (er : EnvRep K H w st σ env) {k : Option Int → Sto → Prop} (h : (sem tb ie).o env st k) {Q : Option Int → Hp → Prop} (c : ∀ b st', k b st' → ∀ H' w', Le H w st H' w' st' → WOk K H' w' st' → Q b H') : TOs K tb ie σ H Q :=
  ⟨w, st, env, ok, er, (sem_mono ht ie).o _ _ _ _ c h⟩
end
/-! ### iterators -/
section
variable {K : PySem.W.Frag} {H : Hp} {w : Wd} {st : Sto} {a b : Addr} {vs us : List V} {ds es : List D}
theorem Ys.list (f : FzL K H (w.M st) a vs) (r : Reps K H (w.M st) vs ds) : Ys K (Itl K a) H w st ds := fun H' w' st' le ok i => by
  have f' := f.conv le
  have r' := r.conv le
  refine ⟨fun h => ⟨vs, f'.sq, by rw [r'.length]; exact h⟩, fun x hx => ?_⟩
  obtain ⟨v, hv, rv⟩ := r'.get hx
  refine ⟨⟨vs, v, f'.sq, hv⟩, fun u H2 ⟨e, hu⟩ => ?_⟩
  subst e
  have := hu vs f'.sq
  rw [hv] at this
  cases this
  exact ⟨Le.refl, ok, rv⟩
theorem FzT.conv {K : PySem.W.Frag} {H H' : Hp} {M M' : Addr → Prop} (c : ∀ a o, H a = some o → ¬ M a → H' a = some o ∧ ¬ M' a) {a : Addr} {xs : List V} (f : FzT K H M a xs) : FzT K H' M' a xs :=
  f.elim (fun ⟨z, m⟩ => .inl ⟨z.elim (fun z => .inl (c _ _ z m).1) fun ⟨o, z⟩ => .inr ⟨o, (c _ _ z m).1⟩, z.elim (fun z => (c _ _ z m).2) fun ⟨o, z⟩ => (c _ _ z m).2⟩) .inr
theorem Ys.tup (f : FzT K H (w.M st) a vs) (r : Reps K H (w.M st) vs ds) : Ys K (Itt K a) H w st ds := fun H' w' st' le ok i => by
  have f' := f.conv le
  have r' := r.conv le
  refine ⟨fun h => ⟨vs, f'.sq, by rw [r'.length]; exact h⟩, fun x hx => ?_⟩
  obtain ⟨v, hv, rv⟩ := r'.get hx
  refine ⟨⟨vs, v, f'.sq, hv⟩, fun u H2 ⟨e, hu⟩ => ?_⟩
  subst e
  have := hu vs f'.sq
  rw [hv] at this
  cases this
  exact ⟨Le.refl, ok, rv⟩
theorem Ys.range (lo : Int) (n : Nat) : Ys K (Itr lo n) H w st (upto lo n) := fun H' w' st' le ok i => by
  unfold upto
  refine ⟨fun h => ?_, fun x hx => ?_⟩
  · have h' : n ≤ i := by simpa using h
    exact h'
  rw [List.getElem?_map] at hx
  by_cases hi : i < n
  · rw [List.getElem?_range hi] at hx
    cases hx
    refine ⟨hi, fun v H2 ⟨e1, e2⟩ => ?_⟩
    subst e1 e2
    exact ⟨Le.refl, ok, .int _⟩
  · rw [List.getElem?_eq_none (by simpa using hi)] at hx
    cases hx
theorem Ys.enum (f : FzL K H (w.M st) a vs) (r : Reps K H (w.M st) vs ds) : Ys K (Ite K a) H w st (ds.mapIdx fun i x => .tuple [.int (i : Nat), x]) := fun H' w' st' le ok i => by
  have f' := f.conv le
  have r' := r.conv le
  refine ⟨fun h => ⟨vs, f'.sq, by rw [r'.length]; simpa using h⟩, fun x hx => ?_⟩
  rw [List.getElem?_mapIdx] at hx
  cases hd : ds[i]? with
  | none => rw [hd] at hx; cases hx
  | some d =>
    rw [hd] at hx
    cases hx
    obtain ⟨v, hv, rv⟩ := r'.get hd
    refine ⟨⟨vs, v, f'.sq, hv⟩, fun u H2 ⟨T, y, e1, n, e2, hu⟩ => ?_⟩
    subst e1 e2
    have := hu vs f'.sq
    rw [hv] at this
    cases this
    exact new_tup n ok (.cons (.int _) (.cons rv .nil))
theorem zip_get {α β γ : Type} {f : α → β → γ} {l : List α} {m : List β} {i : Nat} {x : γ} (h : (List.zipWith f l m)[i]? = some x) : ∃ a b, l[i]? = some a ∧ m[i]? = some b ∧ f a b = x := by
  rw [List.getElem?_zipWith] at h
  split at h
  · rename_i a b h1 h2
    cases h
    exact ⟨a, b, h1, h2, rfl⟩
  · cases h
theorem Ys.zip (f : FzL K H (w.M st) a vs) (r : Reps K H (w.M st) vs ds) (f2 : FzL K H (w.M st) b us) (r2 : Reps K H (w.M st) us es) : Ys K (Itz K a b) H w st (List.zipWith (fun x y => .tuple [x, y]) ds es) := fun H' w' st' le ok i => by
  have f' := f.conv le
  have r' := r.conv le
  have f2' := f2.conv le
  have r2' := r2.conv le
  refine ⟨fun h => ⟨vs, us, f'.sq, f2'.sq, ?_⟩, fun x hx => ?_⟩
  · rw [r'.length, r2'.length]
    rw [List.length_zipWith] at h
    omega
  · obtain ⟨d, e, h1, h2, h3⟩ := zip_get hx
    subst h3
    obtain ⟨v, hv, rv⟩ := r'.get h1
    obtain ⟨u, hu, ru⟩ := r2'.get h2
    refine ⟨⟨vs, us, v, u, f'.sq, f2'.sq, hv, hu⟩, fun z H2 ⟨T, y1, y2, e1, n, e2, g1, g2⟩ => ?_⟩
    subst e1 e2
    have q1 := g1 vs f'.sq
    rw [hv] at q1
    cases q1
    have q2 := g2 us f2'.sq
    rw [hu] at q2
    cases q2
    exact new_tup n ok (.cons rv (.cons ru .nil))
theorem Ys.zipT (f : FzT K H (w.M st) a vs) (r : Reps K H (w.M st) vs ds) (f2 : FzT K H (w.M st) b us) (r2 : Reps K H (w.M st) us es) : Ys K (RZ.ItzT K a b) H w st (List.zipWith (fun x y => .tuple [x, y]) ds es) := fun H' w' st' le ok i => by
  have f' := f.conv le
  have r' := r.conv le
  have f2' := f2.conv le
  have r2' := r2.conv le
  refine ⟨fun h => ⟨vs, us, f'.sq, f2'.sq, ?_⟩, fun x hx => ?_⟩
  · rw [r'.length, r2'.length]
    rw [List.length_zipWith] at h
    omega
  · obtain ⟨d, e, h1, h2, h3⟩ := zip_get hx
    subst h3
    obtain ⟨v, hv, rv⟩ := r'.get h1
    obtain ⟨u, hu, ru⟩ := r2'.get h2
    refine ⟨⟨vs, us, v, u, f'.sq, f2'.sq, hv, hu⟩, fun z H2 ⟨T, y1, y2, e1, n, e2, g1, g2⟩ => ?_⟩
    subst e1 e2
    have q1 := g1 vs f'.sq
    rw [hv] at q1
    cases q1
    have q2 := g2 us f2'.sq
    rw [hu] at q2
    cases q2
    exact new_tup n ok (.cons rv (.cons ru .nil))
end
/-- a list or a tuple, walked -/
theorem pi_seq {X : Cx} {tg l : Expr} {tl : TE} (hl : PE X l tl) : PI X tg l (fun σ H R => tl σ H fun x H1 => ∃ a, x = .ref a ∧ (((∃ xs, SqL X.K H1 a xs) ∧ R (Itl X.K a) H1) ∨ ((∃ xs, SqT X.K H1 a xs) ∧ R (Itt X.K a) H1))) := by
  refine ⟨fun pins s σ H R I h => ?_⟩
  refine thn (hl.run pins s σ H _ I h) fun v s1 ⟨x, H1, I1, r1, q1⟩ => ?_
  obtain ⟨a, e, q⟩ := q1
  subst e
  cases r1
  rcases q with ⟨⟨xs, hq⟩, q⟩ | ⟨⟨xs, hq⟩, q⟩
  · obtain ⟨its, rv, p, hz⟩ := I1.list hq
    refine wpAny_pyIter_list p.isList ?_
    refine ⟨s1.heap.objs.size, [s1.heap.objs.size], _, _, H1, rfl, I1.kept (t' := s1.toks) fun b o e => Heap.get?_push_of_some _ e, turn_list a _, ⟨_, Heap.get?_push_size _ rfl, rfl, rfl⟩, fun b hb => ?_, q⟩
    have e : b = s1.heap.objs.size := by simpa using hb
    subst e
    exact I1.fpOk (Nat.le_refl _) (I1.hok.fresh (Nat.le_refl _))
  · obtain ⟨its, rv, p, hz⟩ := I1.tuple hq
    refine wpAny_pyIter_tuple (show s1.heap.IsTuple a its.toArray from p) ?_
    refine ⟨s1.heap.objs.size, [s1.heap.objs.size], _, _, H1, rfl, I1.kept (t' := s1.toks) fun b o e => Heap.get?_push_of_some _ e, turn_tuple a _, ⟨_, Heap.get?_push_size _ rfl, rfl, rfl⟩, fun b hb => ?_, q⟩
    have e : b = s1.heap.objs.size := by simpa using hb
    subst e
    exact I1.fpOk (Nat.le_refl _) (I1.hok.fresh (Nat.le_refl _))
end VI

/-! VI9: the soundness of expressions. -/
namespace VI
open PySem PySem.Spec PyProof.Rows L2
structure Snd (tb : Tb) (ie : IE) : Prop where
  e : ∀ c X, CxOk tb c X → ∀ e, (ck ie c).e e = true → PE X e (TEs X.K tb ie)
  t : ∀ c X, CxOk tb c X → ∀ e, (ck ie c).t e = true → PT X e (TTs X.K tb ie)
  l : ∀ c X, CxOk tb c X → ∀ es, (ck ie c).l es = true → PA X es (TLs X.K tb ie es.length) ∧ (∀ env, (starEach es env).any (·.1) = false)
  i : ∀ c X, CxOk tb c X → ∀ tg it, (ck ie c).i tg it = true → PI X tg it (TIs X.K tb ie)
  g : ∀ c X, CxOk tb c X → ∀ e, (ck ie c).g e = true → PG X e (TGs1 X.K tb ie)
  gl : ∀ c X, CxOk tb c X → ∀ es, (ck ie c).gl es = true → PGs X es (TGsL X.K tb ie es.length) ∧ ∀ env, (assignEach es env).length = es.length ∧ (assignEach es env).findIdx? (·.1) = none
  o : ∀ c X, CxOk tb c X → ∀ o, (ck ie c).o o = true → PO X o (TOs X.K tb ie)
section
variable {tb : Tb} {ie : IE} {c : Ctx} {X : Cx}
theorem fT (cx : CxOk tb c X) {e : Expr} (he : PE X e (TEs X.K tb ie)) (hp : plainT e = true) (ht : ∀ env st k, (sem tb ie).t env st k = (sem tb ie).e env st fun ev st => truE ev st fun b => k b st) : PT X e (TTs X.K tb ie) :=
  PT.mono (pt_truth he (plainT_of hp)) fun σ H Q ⟨w, st, env, ok, er, h⟩ => by
    rw [ht] at h
    exact bE cx.mono ie ok er h fun ev st1 h1 v H1 w1 le1 ok1 r1 => let ⟨b, tv, q⟩ := tru_rep ok1 r1 h1; ⟨b, tv, q H1 w1 le1 ok1⟩
theorem fI (cx : CxOk tb c X) {tg e : Expr} (he : PE X e (TEs X.K tb ie)) (hi : ∀ env st k, (sem tb ie).i env st k = (sem tb ie).e env st fun ev st => match ev with
    | .d (.list xs) => k xs st
    | .d (.tuple xs) => k xs st
    | .sc xs => k xs st
    | _ => False) : PI X tg e (TIs X.K tb ie) :=
  PI.mono (pi_seq he) fun σ H R ⟨w, st, env, ok, er, h⟩ => by
    rw [hi] at h
    refine bE cx.mono ie ok er h fun ev st1 h1 v H1 w1 le1 ok1 r1 => ?_
    split at h1
    · cases (show Rep _ _ _ v _ from r1) with
      | lst f m r => exact ⟨_, rfl, .inl ⟨⟨_, SqL.of f⟩, h1 _ H1 w1 le1 ok1 (Ys.list (.inl ⟨.inl f, m⟩) r)⟩⟩
    · cases (show Rep _ _ _ v _ from r1) with
      | tup f r => exact ⟨_, rfl, .inr ⟨⟨_, f.sq⟩, h1 _ H1 w1 le1 ok1 (Ys.tup f r)⟩⟩
    · obtain ⟨a, xs, e, f, r⟩ := r1
      exact ⟨a, e, .inl ⟨⟨_, f.sq⟩, h1 _ H1 w1 le1 ok1 (Ys.list f r)⟩⟩
    · exact h1.elim
theorem fO (cx : CxOk tb c X) {e : Expr} (he : PE X e (TEs X.K tb ie)) (ho : ∀ env st k, (sem tb ie).o env st k = (sem tb ie).e env st fun ev st => match ev with
    | .d (.int n) => k (some n) st
    | _ => False) : PO X (some e) (TOs X.K tb ie) :=
  PO.mono (po_some he) fun σ H Q ⟨w, st, env, ok, er, h⟩ => by
    rw [ho] at h
    refine bE cx.mono ie ok er h fun ev st1 h1 v H1 w1 le1 ok1 r1 => ?_
    split at h1
    · cases (show Rep _ _ _ v _ from r1)
      exact ⟨_, rfl, h1 H1 w1 le1 ok1⟩
    · exact h1.elim
/-- the usual expression -/
theorem sndE {f : Ctx → Expr → Bool} (he : ∀ c X, CxOk tb c X → ∀ e, f c e = true → PE X e (TEs X.K tb ie)) (hc : ∀ c, ck ie c = ckE (f c))
    (ht : ∀ env st k, (sem tb ie).t env st k = (sem tb ie).e env st fun ev st => truE ev st fun b => k b st := by intros; rfl)
    (hi : ∀ env st k, (sem tb ie).i env st k = (sem tb ie).e env st fun ev st => match ev with
      | .d (.list xs) => k xs st
      | .d (.tuple xs) => k xs st
      | .sc xs => k xs st
      | _ => False := by intros; rfl)
    (ho : ∀ env st k, (sem tb ie).o env st k = (sem tb ie).e env st fun ev st => match ev with
      | .d (.int n) => k (some n) st
      | _ => False := by intros; rfl) : Snd tb ie where
  e := fun c X cx e h => he c X cx e (by rw [hc] at h; exact h)
  t := fun c X cx e h => by
    rw [hc] at h
    have h2 := Bool.and_eq_true_iff.mp (show (f c e && plainT e) = true from h)
    exact fT cx (he c X cx e h2.1) h2.2 ht
  l := fun c X cx es h => by
    rw [hc] at h
    exact absurd (show false = true from h) Bool.false_ne_true
  i := fun c X cx tg it h => by
    rw [hc] at h
    exact fI cx (he c X cx it h) hi
  g := fun c X cx es h => by
    rw [hc] at h
    exact absurd (show false = true from h) Bool.false_ne_true
  gl := fun c X cx es h => by
    rw [hc] at h
    exact absurd (show false = true from h) Bool.false_ne_true
  o := fun c X cx o h => by
    rw [hc] at h
    cases o with
    | none => exact absurd (show false = true from h) Bool.false_ne_true
    | some e => exact fO cx (he c X cx e h) ho
/-- what gives a truth -/
theorem sndB {f : Ctx → Expr → Bool} (he : ∀ c X, CxOk tb c X → ∀ e, f c e = true → PE X e (TEs X.K tb ie)) (ht : ∀ c X, CxOk tb c X → ∀ e, f c e = true → PT X e (TTs X.K tb ie)) (hc : ∀ c, ck ie c = ckB (f c)) : Snd tb ie where
  e := fun c X cx e h => he c X cx e (by rw [hc] at h; exact h)
  t := fun c X cx e h => ht c X cx e (by rw [hc] at h; exact h)
  l := fun c X cx es h => by
    rw [hc] at h
    exact absurd (show false = true from h) Bool.false_ne_true
  i := fun c X cx tg it h => by
    rw [hc] at h
    exact absurd (show false = true from h) Bool.false_ne_true
  g := fun c X cx es h => by
    rw [hc] at h
    exact absurd (show false = true from h) Bool.false_ne_true
  gl := fun c X cx es h => by
    rw [hc] at h
    exact absurd (show false = true from h) Bool.false_ne_true
  o := fun c X cx o h => by
    rw [hc] at h
    exact absurd (show false = true from h) Bool.false_ne_true
end
section
variable {tb : Tb}
theorem band {a b : Bool} (h : (a && b) = true) : a = true ∧ b = true := Bool.and_eq_true_iff.mp h
theorem snd_cst (d : D) : Snd tb (.cst d) := sndE (f := fun _ e => match d, e with
    | .int i, .Constant (.int j) _ _ => decide (i = j)
    | .bool b, .Constant (.bool c) _ _ => b == c
    | .str x, .Constant (.str y) _ _ => decide (x = y)
    | .none, .Constant .none _ _ => true
    | _, _ => false) (fun c X cx e h => by
  split at h
  · have e1 := of_decide_eq_true h
    subst e1
    exact PE.mono pe_int fun σ H Q ⟨w, st, env, ok, er, q⟩ => q _ H w Le.refl ok (Rep.int _)
  · have e1 := eq_of_beq h
    subst e1
    exact PE.mono pe_bl fun σ H Q ⟨w, st, env, ok, er, q⟩ => q _ H w Le.refl ok (Rep.bl _)
  · have e1 := of_decide_eq_true h
    subst e1
    exact PE.mono pe_str fun σ H Q ⟨w, st, env, ok, er, q⟩ => q _ H w Le.refl ok (Rep.str _)
  · exact PE.mono pe_non fun σ H Q ⟨w, st, env, ok, er, q⟩ => q _ H w Le.refl ok Rep.non
  · cases h) (fun _ => rfl)
theorem e_var {c : Ctx} {X : Cx} (cx : CxOk tb c X) {i : Nat} {e : Expr} (h : (match e with
      | .Name x _ => decide (c.N[i]? = some x) && (visB c.sc x && okNm x)
      | _ => false) = true) : PE X e (TEs X.K tb (.var i)) := by
  split at h
  · obtain ⟨h1, h2⟩ := band h
    obtain ⟨h2, h3⟩ := band h2
    obtain ⟨n1, n2, n3⟩ := okNm_of h3
    refine PE.mono (pe_var (by rw [cx.N]; exact of_decide_eq_true h1) (vis_of cx.sc h2) n1 n2) fun σ H Q ⟨w, st, env, ok, er, q⟩ => ?_
    have q : (match look env i with
      | some ev => PostW X.K H w st Q ev st
      | none => False) := q
    split at q
    · rename_i ev hl
      obtain ⟨v, hv, rv⟩ := er.look hl
      exact ⟨v, hv, q v H w Le.refl ok rv⟩
    · exact q.elim
  · cases h
theorem g_var {c : Ctx} {X : Cx} (cx : CxOk tb c X) {i : Nat} {e : Expr} (h : (match e with
        | .Name x _ => decide (c.N[i]? = some x) && (locB c.sc x && (c.fn x || isLoc c.sc x))
        | _ => false) = true) : PG X e (TGs1 X.K tb (.var i)) := by
  split at h
  · obtain ⟨h1, h2⟩ := band h
    obtain ⟨h2, h3⟩ := band h2
    have hf : X.fn _ = true ∨ X.env.scope.names.lookup _ = some .local := (Bool.or_eq_true_iff.mp h3).elim (fun z => .inl (cx.fn _ z)) fun z => .inr (isLoc_of cx.sc z)
    refine PG.mono (pg_name (i := i) cx.nd (by rw [cx.N]; exact of_decide_eq_true h1) (loc_of cx.sc h2) hf) fun v σ H Q ⟨w, st, env, ev, ok, er, r, q⟩ => ?_
    refine q _ (er.put r i) ⟨by rw [List.length_set], fun j hj => ?_⟩
    have : i ≠ j := fun z => hj (by rw [z]; exact List.mem_singleton.mpr rfl)
    rw [List.getElem?_set_ne this]
  · cases h
theorem snd_var (i : Nat) : Snd tb (.var i) where
  e := fun c X cx e h => e_var cx h
  t := fun c X cx e h => by
    have h2 := band (show ((ck (.var i) c).e e && plainT e) = true from h)
    exact fT cx (e_var cx h2.1) h2.2 fun _ _ _ => rfl
  l := fun c X cx es h => absurd (show false = true from h) Bool.false_ne_true
  i := fun c X cx tg it h => fI cx (e_var cx h) fun _ _ _ => rfl
  g := fun c X cx e h => g_var cx h
  gl := fun c X cx es h => absurd (show false = true from h) Bool.false_ne_true
  o := fun c X cx o h => by
    cases o with
    | none => exact absurd (show false = true from h) Bool.false_ne_true
    | some e => exact fO cx (e_var cx h) fun _ _ _ => rfl
theorem snd_glo (n : Nat) : Snd tb (.glo n) := sndE (f := fun c e => match e with
      | .Name x _ => decide (c.gls[n]? = some x) && (glB c.sc x && okNm x)
      | _ => false) (fun c X cx e h => by
  split at h
  · obtain ⟨h1, h2⟩ := band h
    obtain ⟨h2, h3⟩ := band h2
    obtain ⟨n1, n2, n3⟩ := okNm_of h3
    have h1 := of_decide_eq_true h1
    rw [cx.gls, List.getElem?_map] at h1
    cases hq : tb.gl[n]? with
    | none => rw [hq] at h1; cases h1
    | some q =>
      rw [hq] at h1
      cases h1
      obtain ⟨u, v, hm, rv, rp⟩ := cx.gk n q hq
      refine PE.mono (pe_glob (gl_of cx.sc h2) hm rv n1) fun σ H Q ⟨w, st, env, ok, er, z⟩ => ?_
      have z : (match tb.gl[n]? with
        | some q => PostW X.K H w st Q (.d q.2) st
        | none => False) := z
      rw [hq] at z
      exact z v H w Le.refl ok (rp H _)
  · cases h) (fun _ => rfl)
theorem snd_bin (o : BOp) {a b : IE} (ha : Snd tb a) (hb : Snd tb b) : Snd tb (.bin o a b) := sndE (f := fun c e => match e with
      | .BinOp l op r _ => decide (op = opA o) && ((ck a c).e l && (ck b c).e r)
      | _ => false) (fun c X cx e h => by
  split at h
  · obtain ⟨h1, h2⟩ := band h
    obtain ⟨h2, h3⟩ := band h2
    rw [of_decide_eq_true h1]
    refine PE.mono (pe_op (op_bin o) (ha.e c X cx _ h2) (hb.e c X cx _ h3)) fun σ H Q ⟨w, st, env, ok, er, h⟩ => ?_
    exact bE cx.mono a ok er h fun ex st1 h1 v1 H1 w1 le1 ok1 r1 => bE cx.mono b ok1 (er.le le1) h1 fun ey st2 h2 v2 H2 w2 le2 ok2 r2 =>
      ⟨w2, st2, ex, ey, ok2, r1.le le2, r2, binK_mono (fun z hz v H' le3 ok3 r3 => hz v H' w2 ((le1.trans le2).trans le3) ok3 r3) h2⟩
  · cases h) (fun _ => rfl)
theorem snd_neg {a : IE} (ha : Snd tb a) : Snd tb (.neg a) := sndE (f := fun c e => match e with
      | .UnaryOp .USub x _ => (ck a c).e x
      | _ => false) (fun c X cx e h => by
  split at h
  · refine PE.mono (pe_un un_neg (ha.e c X cx _ h)) fun σ H Q ⟨w, st, env, ok, er, h⟩ => ?_
    refine bE cx.mono a ok er h fun ex st1 h1 v1 H1 w1 le1 ok1 r1 => ?_
    split at h1
    · cases (show Rep _ _ _ v1 _ from r1)
      exact ⟨_, rfl, h1 _ H1 w1 le1 ok1 (Rep.int _)⟩
    · exact h1.elim
  · cases h) (fun _ => rfl)
theorem snd_nt {a : IE} (ha : Snd tb a) : Snd tb (.nt a) where
  e := fun c X cx e h => by
    have h : uNot _ e = true := h
    unfold uNot at h
    split at h
    · refine PE.mono (pe_notT (ha.e c X cx _ h)) fun σ H Q ⟨w, st, env, ok, er, h⟩ => ?_
      exact bE cx.mono a ok er h fun ex st1 h1 v1 H1 w1 le1 ok1 r1 => let ⟨b, tv, q⟩ := tru_rep ok1 r1 h1; ⟨b, tv, q _ H1 w1 le1 ok1 (Rep.bl _)⟩
    · cases h
  t := fun c X cx e h => by
    have h : uNot _ e = true := h
    unfold uNot at h
    split at h
    · refine PT.mono (pt_not (ha.t c X cx _ h)) fun σ H Q ⟨w, st, env, ok, er, h⟩ => ?_
      exact bT cx.mono a ok er h fun b st1 h1 H1 w1 le1 ok1 => h1 H1 w1 le1 ok1
    · cases h
  l := fun c X cx es h => absurd (show false = true from h) Bool.false_ne_true
  i := fun c X cx tg it h => absurd (show false = true from h) Bool.false_ne_true
  g := fun c X cx e h => absurd (show false = true from h) Bool.false_ne_true
  gl := fun c X cx es h => absurd (show false = true from h) Bool.false_ne_true
  o := fun c X cx o h => absurd (show false = true from h) Bool.false_ne_true
theorem snd_cmp (o : COp) {a b : IE} (ha : Snd tb a) (hb : Snd tb b) : Snd tb (.cmp o a b) := by
  have go : ∀ {c : Ctx} {X : Cx}, CxOk tb c X → ∀ {l r : Expr}, (ck a c).e l = true → (ck b c).e r = true → ∀ σ H Q, TEs X.K tb (.cmp o a b) σ H Q → tOp (rCmp X.K o) (TEs X.K tb a) (TEs X.K tb b) σ H Q := fun cx _ _ h1 h2 σ H Q ⟨w, st, env, ok, er, h⟩ =>
    bE cx.mono a ok er h fun ex st1 h1 v1 H1 w1 le1 ok1 r1 => bE cx.mono b ok1 (er.le le1) h1 fun ey st2 h2 v2 H2 w2 le2 ok2 r2 =>
      ⟨w2, st2, ex, ey, ok2, r1.le le2, r2, cmpK_mono (fun z hz => hz _ H2 w2 (le1.trans le2) ok2 (Rep.bl _)) h2⟩
  refine sndB (f := fun c e => match e with
      | .Compare l [op] [r] _ => decide (op = opC o) && ((ck a c).e l && ((ck b c).e r && notSet r))
      | _ => false) (fun c X cx e h => ?_) (fun c X cx e h => ?_) (fun _ => rfl)
  · split at h
    · obtain ⟨h1, h2⟩ := band h
      obtain ⟨h2, h3⟩ := band h2
      obtain ⟨h3, h4⟩ := band h3
      rw [of_decide_eq_true h1]
      exact PE.mono (pe_cmpR (op_cmp cx.xo o) (ha.e c X cx _ h2) (hb.e c X cx _ h3) (marks_of h4)) (go cx h2 h3)
    · cases h
  · split at h
    · obtain ⟨h1, h2⟩ := band h
      obtain ⟨h2, h3⟩ := band h2
      obtain ⟨h3, h4⟩ := band h3
      rw [of_decide_eq_true h1]
      refine PT.mono (pt_cmpR (op_cmp cx.xo o) (ha.e c X cx _ h2) (hb.e c X cx _ h3) (marks_of h4)) fun σ H Q ⟨w, st, env, ok, er, h⟩ => ?_
      exact bE cx.mono a ok er h fun ex st1 h1 v1 H1 w1 le1 ok1 r1 => bE cx.mono b ok1 (er.le le1) h1 fun ey st2 h2 v2 H2 w2 le2 ok2 r2 =>
        ⟨w2, st2, ex, ey, ok2, r1.le le2, r2, cmpK_mono (fun z hz => ⟨z, rfl, hz H2 w2 (le1.trans le2) ok2⟩) h2⟩
    · cases h
theorem snd_cmp2 (o p : COp) {a b d : IE} (ha : Snd tb a) (hb : Snd tb b) (hd : Snd tb d) : Snd tb (.cmp2 o p a b d) := by
  refine sndB (f := fun c e => match e with
      | .Compare l [op, op2] [m, r] _ => decide (op = opC o) && (decide (op2 = opC p) && ((ck a c).e l && ((ck b c).e m && ((ck d c).e r && notSet r))))
      | _ => false) (fun c X cx e h => ?_) (fun c X cx e h => ?_) (fun _ => rfl)
  · split at h
    · obtain ⟨h1, h2⟩ := band h
      obtain ⟨h2, h3⟩ := band h2
      obtain ⟨h3, h4⟩ := band h3
      obtain ⟨h4, h5⟩ := band h4
      obtain ⟨h5, h6⟩ := band h5
      rw [of_decide_eq_true h1, of_decide_eq_true h2]
      refine PE.mono (pe_chain (op_cmp cx.xo o) (op_cmp cx.xo p) (ha.e c X cx _ h3) (hb.e c X cx _ h4) (hd.e c X cx _ h5) (marks2_of h6)) fun σ H Q ⟨w, st, env, ok, er, h⟩ => ?_
      refine bE cx.mono a ok er h fun ex st1 h1 v1 H1 w1 le1 ok1 r1 => bE cx.mono b ok1 (er.le le1) h1 fun ey st2 h2 v2 H2 w2 le2 ok2 r2 =>
        ⟨w2, st2, ex, ey, ok2, r1.le le2, r2, cmpK_mono (fun z hz => ⟨z, rfl, ?_⟩) h2⟩
      cases z with
      | true =>
        have hz := brT' hz; simp only [if_true]
        exact bE cx.mono d ok2 (er.le (le1.trans le2)) hz fun ez st3 h3 v3 H3 w3 le3 ok3 r3 =>
          ⟨w3, st3, ey, ez, ok3, r2.le le3, r3, cmpK_mono (fun z hz => hz _ H3 w3 ((le1.trans le2).trans le3) ok3 (Rep.bl _)) h3⟩
      | false =>
        have hz := brF' hz; simp only [Bool.false_eq_true, if_false]
        exact hz _ H2 w2 (le1.trans le2) ok2 (Rep.bl _)
    · cases h
  · split at h
    · obtain ⟨h1, h2⟩ := band h
      obtain ⟨h2, h3⟩ := band h2
      obtain ⟨h3, h4⟩ := band h3
      obtain ⟨h4, h5⟩ := band h4
      obtain ⟨h5, h6⟩ := band h5
      rw [of_decide_eq_true h1, of_decide_eq_true h2]
      refine PT.mono (pt_chain (op_cmp cx.xo o) (op_cmp cx.xo p) (ha.e c X cx _ h3) (hb.e c X cx _ h4) (hd.e c X cx _ h5) (marks2_of h6)) fun σ H Q ⟨w, st, env, ok, er, h⟩ => ?_
      refine bE cx.mono a ok er h fun ex st1 h1 v1 H1 w1 le1 ok1 r1 => bE cx.mono b ok1 (er.le le1) h1 fun ey st2 h2 v2 H2 w2 le2 ok2 r2 =>
        ⟨w2, st2, ex, ey, ok2, r1.le le2, r2, cmpK_mono (fun z hz => ⟨z, rfl, ?_⟩) h2⟩
      cases z with
      | true =>
        have hz := brT' hz; simp only [if_true]
        exact bE cx.mono d ok2 (er.le (le1.trans le2)) hz fun ez st3 h3 v3 H3 w3 le3 ok3 r3 =>
          ⟨w3, st3, ey, ez, ok3, r2.le le3, r3, cmpK_mono (fun z hz => ⟨z, rfl, hz H3 w3 ((le1.trans le2).trans le3) ok3⟩) h3⟩
      | false =>
        have hz := brF' hz; simp only [Bool.false_eq_true, if_false]
        exact ⟨false, rfl, hz H2 w2 (le1.trans le2) ok2⟩
    · cases h
theorem isNon {K : PySem.W.Frag} {H : Hp} {M : Addr → Prop} {v : V} {d : D} (r : Rep K H M v d) : decide (v = V.non) = isNonD d := by
  cases r <;> first | rfl | simp [isNonD]
theorem notNon {K : PySem.W.Frag} {H : Hp} {M : Addr → Prop} {v : V} {d : D} (r : Rep K H M v d) : (!decide (v = V.non)) = !isNonD d := by
  cases r <;> first | rfl | simp [isNonD]
theorem snd_isN {a : IE} (ha : Snd tb a) : Snd tb (.isN a) := by
  refine sndB (f := fun c e => match e with
      | .Compare l [.Is] [.Constant .none _ _] _ => (ck a c).e l
      | _ => false) (fun c X cx e h => ?_) (fun c X cx e h => ?_) (fun _ => rfl)
  · split at h
    · refine PE.mono (pe_cmp (pc_isN (ha.e c X cx _ h)) rfl) fun σ H Q ⟨w, st, env, ok, er, h⟩ => ?_
      refine bE cx.mono a ok er h fun ex st1 h1 v1 H1 w1 le1 ok1 r1 => ?_
      obtain ⟨d, rd, q⟩ := dE_rep r1 h1
      rw [isNon rd]
      exact q _ H1 w1 le1 ok1 (Rep.bl _)
    · cases h
  · split at h
    · refine PT.mono (pt_cmp (pc_isN (ha.e c X cx _ h)) rfl) fun σ H Q ⟨w, st, env, ok, er, h⟩ => ?_
      refine bE cx.mono a ok er h fun ex st1 h1 v1 H1 w1 le1 ok1 r1 => ?_
      obtain ⟨d, rd, q⟩ := dE_rep r1 h1
      rw [isNon rd]
      exact ⟨_, rfl, q H1 w1 le1 ok1⟩
    · cases h
theorem snd_notN {a : IE} (ha : Snd tb a) : Snd tb (.notN a) := by
  refine sndB (f := fun c e => match e with
      | .Compare l [.IsNot] [.Constant .none _ _] _ => (ck a c).e l
      | _ => false) (fun c X cx e h => ?_) (fun c X cx e h => ?_) (fun _ => rfl)
  · split at h
    · refine PE.mono (pe_cmp (pc_notN (ha.e c X cx _ h)) rfl) fun σ H Q ⟨w, st, env, ok, er, h⟩ => ?_
      refine bE cx.mono a ok er h fun ex st1 h1 v1 H1 w1 le1 ok1 r1 => ?_
      obtain ⟨d, rd, q⟩ := dE_rep r1 h1
      rw [notNon rd]
      exact q _ H1 w1 le1 ok1 (Rep.bl _)
    · cases h
  · split at h
    · refine PT.mono (pt_cmp (pc_notN (ha.e c X cx _ h)) rfl) fun σ H Q ⟨w, st, env, ok, er, h⟩ => ?_
      refine bE cx.mono a ok er h fun ex st1 h1 v1 H1 w1 le1 ok1 r1 => ?_
      obtain ⟨d, rd, q⟩ := dE_rep r1 h1
      rw [notNon rd]
      exact ⟨_, rfl, q H1 w1 le1 ok1⟩
    · cases h
theorem PT.pw {X : Cx} {op : BoolOp} {vs : List Expr} {pos : Pos} {t : TT} (h : PT X (.BoolOp op vs pos) t) : PW X (.BoolOp op vs pos) t := ⟨fun wh pins s σ H Q I q => h.run pins s σ H Q I q⟩
theorem snd_an {a b : IE} (ha : Snd tb a) (hb : Snd tb b) : Snd tb (.an a b) := by
  have goe : ∀ {c : Ctx} {X : Cx}, CxOk tb c X → ∀ σ H Q, TEs X.K tb (.an a b) σ H Q → tAndV (TEs X.K tb a) (TEs X.K tb b) σ H Q := fun cx σ H Q ⟨w, st, env, ok, er, h⟩ =>
    bE cx.mono a ok er h fun ex st1 h1 v1 H1 w1 le1 ok1 r1 => by
      split at h1
      · rename_i c
        cases (show Rep _ _ _ v1 _ from r1)
        cases c with
        | true => exact ⟨true, rfl, by simp only [if_true]; exact bE cx.mono b ok1 (er.le le1) (brT' h1) fun ey st2 h2 v2 H2 w2 le2 ok2 r2 => h2 v2 H2 w2 (le1.trans le2) ok2 r2⟩
        | false => exact ⟨false, rfl, by simp only [Bool.false_eq_true, if_false]; exact (brF' h1) _ H1 w1 le1 ok1 (Rep.bl _)⟩
      · exact h1.elim
  have got : ∀ {c : Ctx} {X : Cx}, CxOk tb c X → ∀ σ H Q, TTs X.K tb (.an a b) σ H Q → tAnd (TTs X.K tb a) (TTs X.K tb b) σ H Q := fun cx σ H Q ⟨w, st, env, ok, er, h⟩ =>
    bT cx.mono a ok er h fun x st1 h1 H1 w1 le1 ok1 => by
      cases x with
      | true =>
        have h1 := brT' h1; simp only [if_true]
        exact bT cx.mono b ok1 (er.le le1) h1 fun y st2 h2 H2 w2 le2 ok2 => h2 H2 w2 (le1.trans le2) ok2
      | false =>
        have h1 := brF' h1; simp only [Bool.false_eq_true, if_false]
        exact h1 H1 w1 le1 ok1
  refine ⟨fun c X cx e h => ?_, fun c X cx e h => ?_, fun c X cx es h => absurd (show false = true from h) Bool.false_ne_true, fun c X cx tg it h => absurd (show false = true from h) Bool.false_ne_true, fun c X cx e h => absurd (show false = true from h) Bool.false_ne_true, fun c X cx es h => absurd (show false = true from h) Bool.false_ne_true, fun c X cx o h => absurd (show false = true from h) Bool.false_ne_true⟩
  · have h : bAnd _ _ e = true := h
    unfold bAnd at h
    split at h
    · obtain ⟨h1, h2⟩ := band h
      exact PE.mono (pe_and (ha.e c X cx _ h1) (pe_one (hb.e c X cx _ h2))) (goe cx)
    · obtain ⟨h1, h2⟩ := band h
      exact PE.mono (pe_and (ha.e c X cx _ h1) (hb.e c X cx _ h2)) (goe cx)
    · cases h
  · have h : bAnd _ _ e = true := h
    unfold bAnd at h
    split at h
    · obtain ⟨h1, h2⟩ := band h
      exact PT.mono (pw_and (ha.t c X cx _ h1) (pw_and1 (hb.t c X cx _ h2))).pt (got cx)
    · obtain ⟨h1, h2⟩ := band h
      exact PT.mono (pw_and (ha.t c X cx _ h1) (PT.pw (hb.t c X cx _ h2))).pt (got cx)
    · cases h
theorem snd_oo {a b : IE} (ha : Snd tb a) (hb : Snd tb b) : Snd tb (.oo a b) := by
  have goe : ∀ {c : Ctx} {X : Cx}, CxOk tb c X → ∀ σ H Q, TEs X.K tb (.oo a b) σ H Q → tOrV (TEs X.K tb a) (TEs X.K tb b) σ H Q := fun cx σ H Q ⟨w, st, env, ok, er, h⟩ =>
    bE cx.mono a ok er h fun ex st1 h1 v1 H1 w1 le1 ok1 r1 => by
      split at h1
      · rename_i c
        cases (show Rep _ _ _ v1 _ from r1)
        cases c with
        | true => exact ⟨true, rfl, by simp only [if_true]; exact (brT' h1) _ H1 w1 le1 ok1 (Rep.bl _)⟩
        | false => exact ⟨false, rfl, by simp only [Bool.false_eq_true, if_false]; exact bE cx.mono b ok1 (er.le le1) (brF' h1) fun ey st2 h2 v2 H2 w2 le2 ok2 r2 => h2 v2 H2 w2 (le1.trans le2) ok2 r2⟩
      · exact h1.elim
  have got : ∀ {c : Ctx} {X : Cx}, CxOk tb c X → ∀ σ H Q, TTs X.K tb (.oo a b) σ H Q → tOr (TTs X.K tb a) (TTs X.K tb b) σ H Q := fun cx σ H Q ⟨w, st, env, ok, er, h⟩ =>
    bT cx.mono a ok er h fun x st1 h1 H1 w1 le1 ok1 => by
      cases x with
      | true =>
        have h1 := brT' h1; simp only [if_true]
        exact h1 H1 w1 le1 ok1
      | false =>
        have h1 := brF' h1; simp only [Bool.false_eq_true, if_false]
        exact bT cx.mono b ok1 (er.le le1) h1 fun y st2 h2 H2 w2 le2 ok2 => h2 H2 w2 (le1.trans le2) ok2
  refine ⟨fun c X cx e h => ?_, fun c X cx e h => ?_, fun c X cx es h => absurd (show false = true from h) Bool.false_ne_true, fun c X cx tg it h => absurd (show false = true from h) Bool.false_ne_true, fun c X cx e h => absurd (show false = true from h) Bool.false_ne_true, fun c X cx es h => absurd (show false = true from h) Bool.false_ne_true, fun c X cx o h => absurd (show false = true from h) Bool.false_ne_true⟩
  · have h : bOr _ _ e = true := h
    unfold bOr at h
    split at h
    · obtain ⟨h1, h2⟩ := band h
      exact PE.mono (pe_or (ha.e c X cx _ h1) (pe_one (hb.e c X cx _ h2))) (goe cx)
    · obtain ⟨h1, h2⟩ := band h
      exact PE.mono (pe_or (ha.e c X cx _ h1) (hb.e c X cx _ h2)) (goe cx)
    · cases h
  · have h : bOr _ _ e = true := h
    unfold bOr at h
    split at h
    · obtain ⟨h1, h2⟩ := band h
      exact PT.mono (pw_or (ha.t c X cx _ h1) (pw_or1 (hb.t c X cx _ h2))).pt (got cx)
    · obtain ⟨h1, h2⟩ := band h
      exact PT.mono (pw_or (ha.t c X cx _ h1) (PT.pw (hb.t c X cx _ h2))).pt (got cx)
    · cases h
theorem snd_ife {t a b : IE} (hc : Snd tb t) (ha : Snd tb a) (hb : Snd tb b) : Snd tb (.ife t a b) := sndE (f := fun c e => match e with
      | .IfExp q x y _ => (ck t c).t q && ((ck a c).e x && (ck b c).e y)
      | _ => false) (fun c X cx e h => by
  split at h
  · obtain ⟨h1, h2⟩ := band h
    obtain ⟨h2, h3⟩ := band h2
    refine PE.mono (pe_ifExp (hc.t c X cx _ h1) (ha.e c X cx _ h2) (hb.e c X cx _ h3)) fun σ H Q ⟨w, st, env, ok, er, h⟩ => ?_
    refine bT cx.mono t ok er h fun x st1 h1 H1 w1 le1 ok1 => ?_
    cases x with
    | true =>
      have h1 := brT' h1; simp only [if_true]
      exact bE cx.mono a ok1 (er.le le1) h1 fun y st2 h2 v2 H2 w2 le2 ok2 r2 => h2 v2 H2 w2 (le1.trans le2) ok2 r2
    | false =>
      have h1 := brF' h1; simp only [Bool.false_eq_true, if_false]
      exact bE cx.mono b ok1 (er.le le1) h1 fun y st2 h2 v2 H2 w2 le2 ok2 r2 => h2 v2 H2 w2 (le1.trans le2) ok2 r2
  · cases h) (fun _ => rfl)
end
end VI

/-! VI10: the soundness of expressions: lists, displays, subscripts, calls, comprehensions. -/
namespace VI
open PySem PySem.Spec PyProof.Rows L2
section
variable {tb : Tb}
theorem ff {p : Prop} (h : false = true) : p := absurd h Bool.false_ne_true
theorem asg_of {e : Expr} {es : List Expr} {env : Env} (h : notStar e = true) : assignEach (e :: es) env = (false, assign e env) :: assignEach es env := by
  cases e <;> first | rfl | cases h
theorem snd_nil : Snd tb .nil where
  e := fun c X cx e h => ff h
  t := fun c X cx e h => ff h
  l := fun c X cx es h => by
    have h : es.isEmpty = true := h
    cases es with
    | nil => exact ⟨PA.mono pa_nil fun σ H Q ⟨w, st, env, ok, er, h⟩ => h [] H w Le.refl ok .nil rfl, fun _ => rfl⟩
    | cons _ _ => cases h
  i := fun c X cx tg it h => ff h
  g := fun c X cx e h => ff h
  gl := fun c X cx es h => by
    have h : es.isEmpty = true := h
    cases es with
    | nil =>
      refine ⟨⟨fun pins s σ H vs u Q I r h => ?_⟩, fun _ => ⟨rfl, rfl⟩⟩
      obtain ⟨w, st, env, ds, ok, er, rs, hl, e, q⟩ := h
      refine pgs_nil.run pins s σ H vs u Q I r ⟨?_, q σ er Chg.refl⟩
      exact List.length_eq_zero_iff.mp hl
    | cons _ _ => cases h
  o := fun c X cx o h => by
    have h : o.isNone = true := h
    cases o with
    | none => exact PO.mono po_none fun σ H Q ⟨w, st, env, ok, er, h⟩ => h H w Le.refl ok
    | some _ => cases h
theorem PGs.mono {X : Cx} {e : List Expr} {t t' : L2.TGs} (h : PGs X e t) (m : ∀ v σ H Q, t' v σ H Q → t v σ H Q) : PGs X e t' := ⟨fun pins s σ H v u Q I r q => h.run pins s σ H v u Q I r (m v σ H Q q)⟩
theorem snd_cons {a r : IE} (ha : Snd tb a) (hr : Snd tb r) : Snd tb (.cons a r) where
  e := fun c X cx e h => ff h
  t := fun c X cx e h => ff h
  l := fun c X cx es h => by
    cases es with
    | nil => exact ff h
    | cons e es =>
      have h : (notStar e && ((ck a c).e e && (ck r c).l es)) = true := h
      obtain ⟨h1, h2⟩ := band h
      obtain ⟨h2, h3⟩ := band h2
      obtain ⟨p1, p2⟩ := hr.l c X cx es h3
      refine ⟨PA.mono (pa_cons (ha.e c X cx e h2) p1 (star_of h1)) fun σ H Q ⟨w, st, env, ok, er, h⟩ => ?_, fun env => ?_⟩
      · exact bE cx.mono a ok er h fun ev st1 h1 v H1 w1 le1 ok1 r1 => bL cx.mono r ok1 (er.le le1) h1 fun evs st2 h2 vs H2 w2 le2 ok2 r2 hl =>
          h2 (v :: vs) H2 w2 (le1.trans le2) ok2 (.cons (r1.le le2) r2) (by rw [List.length_cons, List.length_cons, hl])
      · rw [star_of h1, List.any_cons, p2 env]
        rfl
  i := fun c X cx tg it h => ff h
  g := fun c X cx e h => ff h
  gl := fun c X cx es h => by
    cases es with
    | nil => exact ff h
    | cons e es =>
      have h : (notStar e && ((ck a c).g e && (ck r c).gl es)) = true := h
      obtain ⟨h1, h2⟩ := band h
      obtain ⟨h2, h3⟩ := band h2
      obtain ⟨p1, p2⟩ := hr.gl c X cx es h3
      refine ⟨PGs.mono (pgs_cons (ha.g c X cx e h2) p1 (by rw [asg_of h1]; rfl)) fun vs σ H Q ⟨w, st, env, ds, ok, er, rs, hl, h⟩ => ?_, fun env => ?_⟩
      · cases rs with
        | nil => exact h.elim
        | cons r0 rs =>
          refine ⟨_, _, rfl, w, st, env, .d _, ok, er, r0, (sem_mono cx.mono a).a _ _ _ _ (fun env' h σ' er' ch => ?_) h⟩
          exact ⟨w, st, env', _, ok, er', rs, by simpa using hl, (sem_mono cx.mono r).al _ _ _ _ (fun env2 h σ2 er2 ch2 => h σ2 er2 (ch.trans ch2)) h⟩
      · rw [asg_of h1]
        obtain ⟨q1, q2⟩ := p2 env
        refine ⟨by rw [List.length_cons, List.length_cons, q1], ?_⟩
        rw [List.findIdx?_cons]
        simp only [Bool.false_eq_true, if_false]
        rw [q2]
        rfl
  o := fun c X cx o h => ff h
/-! ### stores reach their end -/
theorem tup_a {r : IE} {ev : EV} {env : En} {k : En → Prop} (h : (sem tb (.tup r)).a ev env k) : ∃ xs, ev = .d (.tuple xs) ∧ (sem tb r).al xs env k := by
  cases ev with
  | d x =>
    cases x with
    | tuple xs => exact ⟨xs, rfl, h⟩
    | _ => exact h.elim
  | _ => exact h.elim
theorem strict (tb : Tb) : ∀ ie : IE, (∀ ev env k, (sem tb ie).a ev env k → ∃ env', k env') ∧ ∀ ds env k, (sem tb ie).al ds env k → ∃ env', k env'
  | .var i => ⟨fun ev env k h => ⟨_, h⟩, fun _ _ _ h => h.elim⟩
  | .nil => ⟨fun _ _ _ h => h.elim, fun ds env k h => ⟨_, h.2⟩⟩
  | .cons a r => ⟨fun _ _ _ h => h.elim, fun ds env k h => by
    cases ds with
    | nil => exact h.elim
    | cons d ds =>
      obtain ⟨e1, h1⟩ := (strict tb a).1 _ _ _ h
      exact (strict tb r).2 _ _ _ h1⟩
  | .tup r => ⟨fun ev env k h => by
    obtain ⟨xs, rfl, h⟩ := tup_a h
    exact (strict tb r).2 _ _ _ h, fun _ _ _ h => h.elim⟩
  | .cst _ => ⟨fun _ _ _ h => h.elim, fun _ _ _ h => h.elim⟩
  | .glo _ => ⟨fun _ _ _ h => h.elim, fun _ _ _ h => h.elim⟩
  | .bin _ _ _ => ⟨fun _ _ _ h => h.elim, fun _ _ _ h => h.elim⟩
  | .neg _ => ⟨fun _ _ _ h => h.elim, fun _ _ _ h => h.elim⟩
  | .nt _ => ⟨fun _ _ _ h => h.elim, fun _ _ _ h => h.elim⟩
  | .cmp _ _ _ => ⟨fun _ _ _ h => h.elim, fun _ _ _ h => h.elim⟩
  | .cmp2 _ _ _ _ _ => ⟨fun _ _ _ h => h.elim, fun _ _ _ h => h.elim⟩
  | .isN _ => ⟨fun _ _ _ h => h.elim, fun _ _ _ h => h.elim⟩
  | .notN _ => ⟨fun _ _ _ h => h.elim, fun _ _ _ h => h.elim⟩
  | .an _ _ => ⟨fun _ _ _ h => h.elim, fun _ _ _ h => h.elim⟩
  | .oo _ _ => ⟨fun _ _ _ h => h.elim, fun _ _ _ h => h.elim⟩
  | .ife _ _ _ => ⟨fun _ _ _ h => h.elim, fun _ _ _ h => h.elim⟩
  | .lst _ _ => ⟨fun _ _ _ h => h.elim, fun _ _ _ h => h.elim⟩
  | .ixc _ _ => ⟨fun _ _ _ h => h.elim, fun _ _ _ h => h.elim⟩
  | .ix _ _ => ⟨fun _ _ _ h => h.elim, fun _ _ _ h => h.elim⟩
  | .sl _ _ _ _ => ⟨fun _ _ _ h => h.elim, fun _ _ _ h => h.elim⟩
  | .call _ _ => ⟨fun _ _ _ h => h.elim, fun _ _ _ h => h.elim⟩
  | .blt _ _ _ => ⟨fun _ _ _ h => h.elim, fun _ _ _ h => h.elim⟩
  | .cmpr _ _ _ _ _ _ => ⟨fun _ _ _ h => h.elim, fun _ _ _ h => h.elim⟩
  | .rng _ => ⟨fun _ _ _ h => h.elim, fun _ _ _ h => h.elim⟩
  | .enm _ => ⟨fun _ _ _ h => h.elim, fun _ _ _ h => h.elim⟩
  | .zp _ => ⟨fun _ _ _ h => h.elim, fun _ _ _ h => h.elim⟩
theorem al_len {c : Ctx} : ∀ {r : IE} {es : List Expr} {ds : List D} {env : En} {k : En → Prop}, (ck r c).gl es = true → (sem tb r).al ds env k → ds.length = es.length
  | .nil, es, ds, env, k, h, q => by
    have h : es.isEmpty = true := h
    rw [q.1, List.isEmpty_iff.mp h]
    rfl
  | .cons a r, es, ds, env, k, h, q => by
    cases es with
    | nil => exact ff h
    | cons e es =>
      have h : (notStar e && ((ck a c).g e && (ck r c).gl es)) = true := h
      have h3 := (band (band h).2).2
      cases ds with
      | nil => exact q.elim
      | cons d ds =>
        obtain ⟨env', q⟩ := (strict tb a).1 _ _ _ q
        rw [List.length_cons, List.length_cons, al_len h3 q]
  | .var _, _, _, _, _, h, _ => ff h
  | .tup _, _, _, _, _, h, _ => ff h
  | .cst _, _, _, _, _, h, _ => ff h
  | .glo _, _, _, _, _, h, _ => ff h
  | .bin _ _ _, _, _, _, _, h, _ => ff h
  | .neg _, _, _, _, _, h, _ => ff h
  | .nt _, _, _, _, _, h, _ => ff h
  | .cmp _ _ _, _, _, _, _, h, _ => ff h
  | .cmp2 _ _ _ _ _, _, _, _, _, h, _ => ff h
  | .isN _, _, _, _, _, h, _ => ff h
  | .notN _, _, _, _, _, h, _ => ff h
  | .an _ _, _, _, _, _, h, _ => ff h
  | .oo _ _, _, _, _, _, h, _ => ff h
  | .ife _ _ _, _, _, _, _, h, _ => ff h
  | .lst _ _, _, _, _, _, h, _ => ff h
  | .ixc _ _, _, _, _, _, h, _ => ff h
  | .ix _ _, _, _, _, _, h, _ => ff h
  | .sl _ _ _ _, _, _, _, _, h, _ => ff h
  | .call _ _, _, _, _, _, h, _ => ff h
  | .blt _ _ _, _, _, _, _, h, _ => ff h
  | .cmpr _ _ _ _ _ _, _, _, _, _, h, _ => ff h
  | .rng _, _, _, _, _, h, _ => ff h
  | .enm _, _, _, _, _, h, _ => ff h
  | .zp _, _, _, _, _, h, _ => ff h
theorem l_cons {c : Ctx} {e : Expr} {es : List Expr} : ∀ {r : IE}, (ck r c).l (e :: es) = true → ∃ a r', r = .cons a r' ∧ notStar e = true ∧ (ck a c).e e = true ∧ (ck r' c).l es = true
  | .nil, h => ff h
  | .cons a r, h => by
    have h : (notStar e && ((ck a c).e e && (ck r c).l es)) = true := h
    exact ⟨a, r, rfl, (band h).1, (band (band h).2).1, (band (band h).2).2⟩
  | .var _, h => ff h
  | .tup _, h => ff h
  | .cst _, h => ff h
  | .glo _, h => ff h
  | .bin _ _ _, h => ff h
  | .neg _, h => ff h
  | .nt _, h => ff h
  | .cmp _ _ _, h => ff h
  | .cmp2 _ _ _ _ _, h => ff h
  | .isN _, h => ff h
  | .notN _, h => ff h
  | .an _ _, h => ff h
  | .oo _ _, h => ff h
  | .ife _ _ _, h => ff h
  | .lst _ _, h => ff h
  | .ixc _ _, h => ff h
  | .ix _ _, h => ff h
  | .sl _ _ _ _, h => ff h
  | .call _ _, h => ff h
  | .blt _ _ _, h => ff h
  | .cmpr _ _ _ _ _ _, h => ff h
  | .rng _, h => ff h
  | .enm _, h => ff h
  | .zp _, h => ff h
theorem l_nil {c : Ctx} : ∀ {r : IE}, (ck r c).l [] = true → r = .nil
  | .nil, h => rfl
  | .cons a r, h => ff h
  | .var _, h => ff h
  | .tup _, h => ff h
  | .cst _, h => ff h
  | .glo _, h => ff h
  | .bin _ _ _, h => ff h
  | .neg _, h => ff h
  | .nt _, h => ff h
  | .cmp _ _ _, h => ff h
  | .cmp2 _ _ _ _ _, h => ff h
  | .isN _, h => ff h
  | .notN _, h => ff h
  | .an _ _, h => ff h
  | .oo _ _, h => ff h
  | .ife _ _ _, h => ff h
  | .lst _ _, h => ff h
  | .ixc _ _, h => ff h
  | .ix _ _, h => ff h
  | .sl _ _ _ _, h => ff h
  | .call _ _, h => ff h
  | .blt _ _ _, h => ff h
  | .cmpr _ _ _ _ _ _, h => ff h
  | .rng _, h => ff h
  | .enm _, h => ff h
  | .zp _, h => ff h
/-! ### displays -/
theorem line1k {n : Nat} (h : n ≤ 1000) : n ≤ sizeLine := by
  rw [sizeLine_eq]; omega
theorem e_tup {r : IE} (hr : Snd tb r) {c : Ctx} {X : Cx} (cx : CxOk tb c X) {e : Expr} (h : (match e with
      | .Tuple es _ _ => decide (es.length ≤ 1000) && (ck r c).l es
      | _ => false) = true) : PE X e (TEs X.K tb (.tup r)) := by
  split at h
  · obtain ⟨h1, h2⟩ := band h
    refine PE.mono (pe_tup (hr.l c X cx _ h2).1) fun σ H Q ⟨w, st, env, ok, er, h⟩ => ?_
    refine bL cx.mono r ok er h fun evs st1 q vs H1 w1 le1 ok1 r1 hl => ?_
    obtain ⟨ds, rs, q⟩ := allD_rep r1 q
    refine ⟨line1k (by rw [hl]; exact of_decide_eq_true h1), fun p n => ?_⟩
    obtain ⟨a, b, d⟩ := new_tup n ok1 rs
    exact q _ _ w1 (le1.trans a) b d
  · cases h
theorem g_tup {r : IE} (hr : Snd tb r) {c : Ctx} {X : Cx} (cx : CxOk tb c X) {e : Expr} (h : (match e with
        | .Tuple es _ _ => (ck r c).gl es
        | _ => false) = true) : PG X e (TGs1 X.K tb (.tup r)) := by
  split at h
  · obtain ⟨p1, p2⟩ := hr.gl c X cx _ h
    refine PG.mono (pg_tup cx.xo.calm p1 (p2 _).1 (p2 _).2) fun v σ H Q ⟨w, st, env, ev, ok, er, r0, q⟩ => ?_
    obtain ⟨xs, rfl, q⟩ := tup_a q
    cases (show Rep _ _ _ v _ from r0) with
    | tup f rs =>
      have hl := al_len h q
      exact ⟨_, _, rfl, f.sq, by rw [rs.length]; exact hl, w, st, env, _, ok, er, rs, by rw [rs.length]; exact hl, q⟩
  · cases h
theorem snd_tup {r : IE} (hr : Snd tb r) : Snd tb (.tup r) where
  e := fun c X cx e h => e_tup hr cx h
  t := fun c X cx e h => by
    have h2 := band (show ((ck (.tup r) c).e e && plainT e) = true from h)
    exact fT cx (e_tup hr cx h2.1) h2.2 fun _ _ _ => rfl
  l := fun c X cx es h => ff h
  i := fun c X cx tg it h => fI cx (e_tup hr cx h) fun _ _ _ => rfl
  g := fun c X cx e h => g_tup hr cx h
  gl := fun c X cx es h => ff h
  o := fun c X cx o h => by
    cases o with
    | none => exact ff h
    | some e => exact fO cx (e_tup hr cx h) fun _ _ _ => rfl
theorem snd_lst (kd : Nat) {r : IE} (hr : Snd tb r) : Snd tb (.lst kd r) := sndE (f := fun c e => match e with
      | .List es _ => decide (es.length ≤ 1000) && (ck r c).l es
      | _ => false) (fun c X cx e h => by
  split at h
  · obtain ⟨h1, h2⟩ := band h
    refine PE.mono (pe_lst (hr.l c X cx _ h2).1) fun σ H Q ⟨w, st, env, ok, er, h⟩ => ?_
    refine bL cx.mono r ok er h fun evs st1 q vs H1 w1 le1 ok1 r1 hl => ?_
    obtain ⟨ds, rs, q⟩ := allD_rep r1 q
    refine ⟨line1k (by rw [hl]; exact of_decide_eq_true h1), fun p n => ?_⟩
    obtain ⟨ev, w', st', a, b, d, q⟩ := new_lst n ok1 rs q
    exact q _ _ w' (le1.trans a) b d
  · cases h) (fun _ => rfl)
/-! ### subscripts -/
theorem ix_rep {K : PySem.W.Frag} {H H' : Hp} {w : Wd} {st : Sto} {v : V} {ev : EV} {n : Int} {Q : VK} (ok : WOk K H w st) (r : EVRep K H w st v ev) {k : D → Prop} (h : seqE ev st fun _ xs => match L2.atI xs n with
      | some y => k y
      | none => False) (c : ∀ x y, k y → Rep K H (w.M st) x y → Q x H) : rIx K v (.int n) H Q := by
  obtain ⟨b, ds, a, xs, rfl, h1, h2, h3, h4⟩ := seq_rep ok r h
  split at h4
  · rename_i y e
    have e0 := e
    unfold atI at e0
    cases ej : ixN ds.length n with
    | none => rw [ej] at e0; cases e0
    | some j =>
      rw [ej] at e0
      have e0 : ds[j]? = some y := e0
      obtain ⟨u, hu, ru⟩ := h3.get e0
      have ea : atI xs n = some u := by
        unfold atI
        rw [h3.length, ej]
        exact hu
      cases b with
      | true => exact .inl ⟨a, xs, n, u, rfl, rfl, h1 rfl, ea, c u y h4 ru⟩
      | false => exact .inr (.inl ⟨a, xs, n, u, rfl, rfl, (h2 rfl).1, ea, c u y h4 ru⟩)
  · exact h4.elim
theorem snd_ixc {a : IE} (n : Nat) (ha : Snd tb a) : Snd tb (.ixc a n) := sndE (f := fun c e => match e with
      | .Subscript x (.Constant (.int j) _ _) _ => decide (j = (n : Nat)) && (ck a c).e x
      | _ => false) (fun c X cx e h => by
  split at h
  · obtain ⟨h1, h2⟩ := band h
    have h1 := of_decide_eq_true h1
    subst h1
    refine PE.mono (pe_ix ix_seq (ha.e c X cx _ h2) pe_int (plainIx_of rfl)) fun σ H Q ⟨w, st, env, ok, er, h⟩ => ?_
    refine bE cx.mono a ok er h fun ev st1 h1 v H1 w1 le1 ok1 r1 => ?_
    refine ix_rep (H' := H1) (k := fun y => PostW X.K H w st Q (.d y) st1) ok1 r1 (seqE_mono (fun b xs q => ?_) h1) fun x y k r => k x H1 w1 le1 ok1 r
    split at q
    · rename_i e
      rw [atI_nat e]
      exact q
    · exact q.elim
  · cases h) (fun _ => rfl)
theorem snd_ix {a i : IE} (ha : Snd tb a) (hi : Snd tb i) : Snd tb (.ix a i) := sndE (f := fun c e => match e with
      | .Subscript x y _ => notSlice y && ((ck a c).e x && (ck i c).e y)
      | _ => false) (fun c X cx e h => by
  split at h
  · obtain ⟨h1, h2⟩ := band h
    obtain ⟨h2, h3⟩ := band h2
    refine PE.mono (pe_ix ix_seq (ha.e c X cx _ h2) (hi.e c X cx _ h3) (plainIx_of h1)) fun σ H Q ⟨w, st, env, ok, er, h⟩ => ?_
    refine bE cx.mono a ok er h fun ev st1 h1 v H1 w1 le1 ok1 r1 => bE cx.mono i ok1 (er.le le1) h1 fun ej st2 h2 v2 H2 w2 le2 ok2 r2 => ?_
    split at h2
    · cases (show Rep _ _ _ v2 _ from r2)
      exact ix_rep (H' := H2) (k := fun y => PostW X.K H w st Q (.d y) st2) ok2 (r1.le le2) (seqE_mono (fun b xs q => q) h2) fun x y k r => k x H2 w2 (le1.trans le2) ok2 r
    · exact h2.elim
  · cases h) (fun _ => rfl)
theorem snd_sl (kd : Nat) {a lo hi : IE} (ha : Snd tb a) (hl : Snd tb lo) (hh : Snd tb hi) : Snd tb (.sl kd a lo hi) := sndE (f := fun c e => match e with
      | .Subscript x (.Slice l h none _) _ => (ck a c).e x && ((ck lo c).o l && (ck hi c).o h)
      | _ => false) (fun c X cx e h => by
  split at h
  · obtain ⟨h1, h2⟩ := band h
    obtain ⟨h2, h3⟩ := band h2
    refine PE.mono (pe_slice (sl_list.or (sl_tupA.or sl_str)) (ha.e c X cx _ h1) (hl.o c X cx _ h2) (hh.o c X cx _ h3)) fun σ H Q ⟨w, st, env, ok, er, h⟩ => ?_
    refine bE cx.mono a ok er h fun ev st1 h1 v H1 w1 le1 ok1 r1 => bO cx.mono lo ok1 (er.le le1) h1 fun l st2 h2 H2 w2 le2 ok2 => bO cx.mono hi ok2 (er.le (le1.trans le2)) h2 fun u st3 h3 H3 w3 le3 ok3 => ?_
    have le := (le1.trans le2).trans le3
    have r3 := r1.le (le2.trans le3)
    have lst : seqE ev st3 (fun _ xs => newL kd (cutD xs l u) st3 (PostW X.K H w st Q)) → (∀ xs, ev ≠ .d (.tuple xs)) → rSlL X.K v l u H3 Q := fun h nt => by
      obtain ⟨b, ds, a, xs, rfl, g1, g2, g3, g4⟩ := seq_rep ok3 r3 h
      have hb : b = true := by
        cases b with
        | true => rfl
        | false => exact absurd (g2 rfl).2 (nt _)
      refine ⟨a, xs, rfl, g1 hb, fun p n => ?_⟩
      obtain ⟨ev', w', st', x, y, z, q⟩ := new_lst n ok3 (g3.cut l u) g4
      exact q _ _ w' (le.trans x) y z
    split at h3
    · cases (show Rep _ _ _ v _ from r3) with
      | tup f rs =>
        refine .inr (.inl ⟨_, _, rfl, f.sq, fun hw => ?_, fun _ p n => ?_⟩)
        · refine h3 _ _ w3 le ok3 ?_
          have e : ∀ ds : List D, Reps X.K H3 (w3.M st3) _ ds → cutD ds l u = ds := fun ds rs => by
            have hl := rs.length
            unfold cutD
            rw [← hl, hw.1, hw.2, List.drop_zero, Nat.sub_zero, hl, List.take_length]
          rw [e _ rs]
          exact r3
        · obtain ⟨x, y, z⟩ := new_tup n ok3 (rs.cut l u)
          exact h3 _ _ w3 (le.trans x) y z
    · cases (show Rep _ _ _ v _ from r3)
      exact .inr (.inr ⟨_, rfl, h3.1, h3.2 _ _ w3 le ok3 (Rep.str _)⟩)
    · rename_i ht hs
      exact .inl (lst h3 fun xs e => ht xs e)
  · cases h) (fun _ => rfl)
end
end VI

/-! VI11: the soundness of expressions: calls, iterables, comprehensions. -/
namespace VI
open PySem PySem.Spec PyProof.Rows L2
theorem backTo_any {pos : Pos} : ∀ {l : List (Bool × PySem.Sem Value)}, l.any (·.1) = false → (backTo pos l).any (·.1) = false := by
  intro l h
  unfold backTo
  rw [List.any_map]
  exact h
section
variable {tb : Tb}
theorem any_tail {e : Expr} {es : List Expr} {env : Env} (h : notStar e = true) (q : (starEach (e :: es) env).any (·.1) = false) : (starEach es env).any (·.1) = false := by
  rw [star_of h, List.any_cons] at q
  exact q
theorem l_star {c : Ctx} {r : IE} {e : Expr} {es : List Expr} (h : (ck r c).l (e :: es) = true) : notStar e = true := let ⟨_, _, _, q, _, _⟩ := l_cons h; q
theorem l_star2 {c : Ctx} {r : IE} {e f : Expr} {es : List Expr} (h : (ck r c).l (e :: f :: es) = true) : notStar f = true := let ⟨_, _, _, _, _, q⟩ := l_cons h; l_star q
theorem snd_call (n : Nat) {r : IE} (hr : Snd tb r) : Snd tb (.call n r) := sndE (f := fun c e => match e with
      | .Call (.Name f _) es [] _ => decide (c.fns[n]? = some (f, es.length)) && (glB c.sc f && (okNm f && (ck r c).l es))
      | _ => false) (fun c X cx e h => by
  split at h
  · rename_i f pf es pos
    obtain ⟨h1, hA⟩ := band h
    obtain ⟨h2, hB⟩ := band hA
    obtain ⟨h3, h4⟩ := band hB
    clear h hA hB
    have h1 := of_decide_eq_true h1
    rw [cx.fns, List.getElem?_map] at h1
    cases hq : tb.fn[n]? with
    | none => rw [hq] at h1; cases h1
    | some q =>
      rw [hq] at h1
      obtain ⟨qn, qa, qs⟩ := q
      have h1 : some (qn, qa) = some (f, es.length) := h1
      cases h1
      obtain ⟨fa, fd, ps, k, F, hr0, hm, hk, hb⟩ := (cx.ok n _ hq).ok
      have hs : tb.sem n = qs := by
        unfold Tb.sem
        rw [hq]
      have main : ∀ σ H Q, TEs X.K tb (.call n r) σ H Q → tCall (spG X.K es.length qs) [] E0 (TLs X.K tb r es.length) σ H Q := fun σ H Q ⟨w, st, env, ok, er, h⟩ => by
        refine bL cx.mono r ok er h fun evs st1 q vs H1 w1 le1 ok1 r1 hl => ?_
        obtain ⟨ri, q⟩ := r1.inner q
        rw [hs] at q
        refine ⟨by rw [List.append_nil]; exact hl, w1.inner st1, st1.g, evs, rfl, ok1.inner, by rw [List.append_nil]; exact ri, ?_⟩
        have mq : qs evs st1.g (fun v g => PostW X.K H w st Q v ⟨g, st1.l⟩) := q
        have mm : SemMono qs := by rw [← hs]; exact cx.mono n
        refine mm _ _ _ _ (fun ev g hk' v H' w' hla le ok' r' => ?_) mq
        obtain ⟨a, b, d⟩ := outer_of ok1 hla le ok'
        exact hk' v H' _ (le1.trans a) b (d v ev r')
      cases es with
      | nil =>
        have e0 := l_nil h4
        subst e0
        refine PE.mono (pe_callG0 F hr0 cx.xo.gd (gl_of cx.sc h2) hm hk hb (okNm_of h3).1) fun σ H Q h => ?_
        obtain ⟨w, st, env, ok, er, h⟩ := h
        exact main σ H Q ⟨w, st, env, ok, er, h⟩ |> fun ⟨w', st', env', ok', er', h'⟩ => h' [] H w' Le.refl ok' .nil rfl
      | cons e es =>
        have h5 := l_star h4
        obtain ⟨p1, p2⟩ := hr.l c X cx _ h4
        exact PE.mono (pe_callG F hr0 cx.xo.gd (gl_of cx.sc h2) hm hk hb p1 (okNm_of h3).1 (star_of h5) (backTo_any (any_tail h5 (p2 _)))) main
  · cases h) (fun _ => rfl)
theorem snd_blt (b : Blt) (kd : Nat) {r : IE} (hr : Snd tb r) : Snd tb (.blt b kd r) := sndE (f := fun c e => match e with
      | .Call (.Name f _) (e :: es) [] _ => decide (f = bltN b) && ((c.gcd || decide (b ≠ .gcd)) && (glB c.sc f && (ck r c).l (e :: es)))
      | _ => false) (fun c X cx e h => by
  split at h
  · rename_i f pf e es pos
    obtain ⟨h1, hA⟩ := band h
    obtain ⟨h2, hB⟩ := band hA
    obtain ⟨h3, h4⟩ := band hB
    clear h hA hB
    have h1 := of_decide_eq_true h1
    subst h1
    have h5 := l_star h4
    obtain ⟨p1, p2⟩ := hr.l c X cx _ h4
    have st := star_of (es := es) (env := X.env) h5
    have bk := backTo_any (pos := pos) (any_tail h5 (p2 X.env))
    have hg := gl_of cx.sc h3
    have main : ∀ σ H Q, TEs X.K tb (.blt b kd r) σ H Q → tCB (rBlt X.K b kd) (TLs X.K tb r (e :: es).length) σ H Q := fun σ H Q ⟨w, st, env, ok, er, h⟩ =>
      bL cx.mono r ok er h fun evs st1 q vs H1 w1 le1 ok1 r1 hl => ⟨w1, st1, evs, ok1, r1, bltK_mono (fun ev st2 hz v H' w' le2 ok2 r2 => hz v H' w' (le1.trans le2) ok2 r2) q⟩
    have cb := call_blt (X := X) cx.xo b kd
    cases b with
    | len => exact PE.mono (pe_callB cb hg (cx.mgn _ (by decide)) (by decide +kernel) p1 (by decide) (by decide) st bk) main
    | abs => exact PE.mono (pe_callB cb hg (cx.mgn _ (by decide)) (by decide +kernel) p1 (by decide) (by decide) st bk) main
    | int => exact PE.mono (pe_callTy cb hg (cx.mgn _ (by decide)) (by decide +kernel) p1 (by decide) (by decide) st bk) main
    | min2 => exact PE.mono (pe_callB cb hg (cx.mgn _ (by decide)) (by decide +kernel) p1 (by decide) (by decide) st bk) main
    | max2 => exact PE.mono (pe_callB cb hg (cx.mgn _ (by decide)) (by decide +kernel) p1 (by decide) (by decide) st bk) main
    | gcd =>
      have hgc : c.gcd = true := by
        rcases Bool.or_eq_true_iff.mp h2 with z | z
        · exact z
        · exact absurd rfl (of_decide_eq_true z)
      exact PE.mono (pe_callBfun cb hg (cx.gcd hgc) p1 (by decide) st bk) main
    | all => exact PE.mono (pe_callB cb hg (cx.mgn _ (by decide)) (by decide +kernel) p1 (by decide) (by decide) st bk) main
    | any => exact PE.mono (pe_callB cb hg (cx.mgn _ (by decide)) (by decide +kernel) p1 (by decide) (by decide) st bk) main
    | tuple => exact PE.mono (pe_callTy cb hg (cx.mgn _ (by decide)) (by decide +kernel) p1 (by decide) (by decide) st bk) main
    | list => exact PE.mono (pe_callTy cb hg (cx.mgn _ (by decide)) (by decide +kernel) p1 (by decide) (by decide) st bk) main
    | repr => exact PE.mono (pe_callB cb hg (cx.mgn _ (by decide)) (by decide +kernel) p1 (by decide) (by decide) st bk) main
  · cases h) (fun _ => rfl)
/-! ### iterables -/
/-- what is only walked -/
theorem sndI {ie : IE} {f : Ctx → Expr → Expr → Bool} (hi : ∀ c X, CxOk tb c X → ∀ tg it, f c tg it = true → PI X tg it (TIs X.K tb ie)) (hc : ∀ c, ck ie c = { noCK with i := f c }) : Snd tb ie where
  e := fun c X cx e h => by rw [hc] at h; exact ff h
  t := fun c X cx e h => by rw [hc] at h; exact ff h
  l := fun c X cx e h => by rw [hc] at h; exact ff h
  i := fun c X cx tg it h => hi c X cx tg it (by rw [hc] at h; exact h)
  g := fun c X cx e h => by rw [hc] at h; exact ff h
  gl := fun c X cx e h => by rw [hc] at h; exact ff h
  o := fun c X cx e h => by rw [hc] at h; exact ff h
theorem snd_rng {r : IE} (hr : Snd tb r) : Snd tb (.rng r) := sndI (f := fun c _ it => match it with
      | .Call (.Name f _) [x] [] _ => decide (f = "range") && (glB c.sc f && (ck r c).l [x])
      | .Call (.Name f _) [x, y] [] _ => decide (f = "range") && (glB c.sc f && (ck r c).l [x, y])
      | _ => false) (fun c X cx tg it h => by
  split at h
  · obtain ⟨h1, h2⟩ := band h
    obtain ⟨h2, h3⟩ := band h2
    have h1 := of_decide_eq_true h1
    subst h1
    have h5 := l_star h3
    refine PI.mono (pi_range1 (gl_of cx.sc h2) (cx.mgn _ (by decide)) (hr.l c X cx _ h3).1 (star_of h5)) fun σ H R ⟨w, st, env, ok, er, h⟩ => ?_
    refine bL cx.mono r ok er h fun evs st1 q vs H1 w1 le1 ok1 r1 hl => ?_
    unfold rngK at q
    split at q
    · obtain ⟨v, rfl, rv⟩ := evreps1 r1
      cases (show Rep _ _ _ v _ from rv)
      exact ⟨_, rfl, q.1.1, q.1.2, q.2 _ H1 w1 le1 ok1 (Ys.range _ _)⟩
    · obtain ⟨v, u, rfl, rv, ru⟩ := evreps2 r1
      exact absurd hl (by simp)
    · exact q.elim
  · obtain ⟨h1, h2⟩ := band h
    obtain ⟨h2, h3⟩ := band h2
    have h1 := of_decide_eq_true h1
    subst h1
    have h5 := l_star h3
    have h7 := l_star2 h3
    refine PI.mono (pi_range2 (gl_of cx.sc h2) (cx.mgn _ (by decide)) (hr.l c X cx _ h3).1 (by rw [star_of h5, star_of h7]; rfl) (star_of h7)) fun σ H R ⟨w, st, env, ok, er, h⟩ => ?_
    refine bL cx.mono r ok er h fun evs st1 q vs H1 w1 le1 ok1 r1 hl => ?_
    unfold rngK at q
    split at q
    · obtain ⟨v, rfl, rv⟩ := evreps1 r1
      exact absurd hl (by simp)
    · obtain ⟨v, u, rfl, rv, ru⟩ := evreps2 r1
      cases (show Rep _ _ _ v _ from rv)
      cases (show Rep _ _ _ u _ from ru)
      exact ⟨_, _, rfl, q.1, q.2 _ H1 w1 le1 ok1 (Ys.range _ _)⟩
    · exact q.elim
  · cases h) (fun _ => rfl)
theorem lst_d {K : PySem.W.Frag} {H : Hp} {w : Wd} {st : Sto} {v : V} {ds : List D} (r : EVRep K H w st v (.d (.list ds))) : ∃ a xs, v = .ref a ∧ FzL K H (w.M st) a xs ∧ Reps K H (w.M st) xs ds := by
  cases (show Rep _ _ _ v _ from r) with
  | lst f m rs => exact ⟨_, _, rfl, .inl ⟨.inl f, m⟩, rs⟩
theorem tup_d {K : PySem.W.Frag} {H : Hp} {w : Wd} {st : Sto} {v : V} {ds : List D} (r : EVRep K H w st v (.d (.tuple ds))) : ∃ a xs, v = .ref a ∧ FzT K H (w.M st) a xs ∧ Reps K H (w.M st) xs ds := by
  cases (show Rep _ _ _ v _ from r) with
  | tup f rs => exact ⟨_, _, rfl, f, rs⟩
theorem snd_enm {r : IE} (hr : Snd tb r) : Snd tb (.enm r) := sndI (f := fun c tg it => match tg, it with
      | .Tuple _ _ _, .Call (.Name f _) [x] [] _ => decide (f = "enumerate") && (glB c.sc f && (ck r c).l [x])
      | _, _ => false) (fun c X cx tg it h => by
  split at h
  · obtain ⟨h1, h2⟩ := band h
    obtain ⟨h2, h3⟩ := band h2
    have h1 := of_decide_eq_true h1
    subst h1
    have h5 := l_star h3
    refine PI.mono (pi_enum (gl_of cx.sc h2) (cx.mgn _ (by decide)) (hr.l c X cx _ h3).1 (star_of h5)) fun σ H R ⟨w, st, env, ok, er, h⟩ => ?_
    refine bL cx.mono r ok er h fun evs st1 q vs H1 w1 le1 ok1 r1 hl => ?_
    unfold enmK at q
    split at q
    · obtain ⟨v, rfl, rv⟩ := evreps1 r1
      obtain ⟨a, xs, rfl, f, rs⟩ := lst_d rv
      exact ⟨a, xs, rfl, f.sq, q _ H1 w1 le1 ok1 (Ys.enum f rs)⟩
    · exact q.elim
  · cases h) (fun _ => rfl)
theorem snd_zp {r : IE} (hr : Snd tb r) : Snd tb (.zp r) := sndI (f := fun c tg it => match tg, it with
      | .Tuple _ _ _, .Call (.Name f _) [x, y] [] _ => decide (f = "zip") && (glB c.sc f && (ck r c).l [x, y])
      | _, _ => false) (fun c X cx tg it h => by
  split at h
  · obtain ⟨h1, h2⟩ := band h
    obtain ⟨h2, h3⟩ := band h2
    have h1 := of_decide_eq_true h1
    subst h1
    obtain ⟨p1, p2⟩ := hr.l c X cx _ h3
    have h5 := l_star h3
    refine PI.mono (RZ.pi_zipA (gl_of cx.sc h2) (cx.mgn _ (by decide)) p1 (star_of h5) (backTo_any (any_tail h5 (p2 _)))) fun σ H R ⟨w, st, env, ok, er, h⟩ => ?_
    refine bL cx.mono r ok er h fun evs st1 q vs H1 w1 le1 ok1 r1 hl => ?_
    unfold zpK at q
    split at q
    · obtain ⟨v, u, rfl, rv, ru⟩ := evreps2 r1
      obtain ⟨a, xs, rfl, f, rs⟩ := lst_d rv
      obtain ⟨b, ys, rfl, f2, rs2⟩ := lst_d ru
      exact ⟨a, b, xs, ys, rfl, .inl ⟨f.sq, f2.sq, q _ H1 w1 le1 ok1 (Ys.zip f rs f2 rs2)⟩⟩
    · obtain ⟨v, u, rfl, rv, ru⟩ := evreps2 r1
      obtain ⟨a, xs, rfl, f, rs⟩ := tup_d rv
      obtain ⟨b, ys, rfl, f2, rs2⟩ := tup_d ru
      exact ⟨a, b, xs, ys, rfl, .inr ⟨f.sq, f2.sq, q _ H1 w1 le1 ok1 (Ys.zipT f rs f2 rs2)⟩⟩
    · exact q.elim
  · cases h) (fun _ => rfl)
end
end VI

/-! VI12: the soundness of comprehensions; of every expression. -/
namespace VI
open PySem PySem.Spec PyProof.Rows L2
/-! ### a list under construction -/
def Wd.hold (w : Wd) (p : Addr) : Wd := ⟨w.mu, w.la, fun a => w.F a ∨ a = p⟩
section
variable {K : PySem.W.Frag} {H H1 : Hp} {w w1 : Wd} {st st1 : Sto} {p : Addr} {o : HO}
theorem hold_M {a : Addr} : (w.hold p).M st a ↔ w.M st a ∨ a = p := by
  unfold Wd.M Wd.hold
  constructor
  · rintro (h | h | h | h)
    · exact .inl (.inl h)
    · exact .inl (.inr (.inl h))
    · exact .inl (.inr (.inr h))
    · exact .inr h
  · rintro ((h | h | h) | h)
    · exact .inl h
    · exact .inr (.inl h)
    · exact .inr (.inr (.inl h))
    · exact .inr (.inr (.inr h))
theorem hold_fr (n : H p = none) : Fr H w st (upd H p o) (w.hold p) st := fun a u h m =>
  ⟨by rw [upd_ne (ne_of_none h n)]; exact h, fun q => (hold_M.mp q).elim m (ne_of_none h n)⟩
theorem hold_ev {v : V} {ev : EV} (n : H p = none) (r : EVRep K H w st v ev) : EVRep K (upd H p o) (w.hold p) st v ev := by
  cases ev with
  | d x => exact Rep.conv (hold_fr n) r
  | lm n => exact r
  | gm n => exact r
  | sc ds =>
    obtain ⟨a, xs, e, f, q⟩ := r
    exact ⟨a, xs, e, f.conv (hold_fr n), q.conv (hold_fr n)⟩
theorem hold_env {σ : L2.St} {env : En} (n : H p = none) (r : EnvRep K H w st σ env) : EnvRep K (upd H p o) (w.hold p) st σ env :=
  ⟨r.1, fun i ev h => let ⟨v, e, q⟩ := r.2 i ev h; ⟨v, e, hold_ev n q⟩⟩
theorem hold_ok (n : H p = none) (ok : WOk K H w st) : WOk K (upd H p o) (w.hold p) st := by
  obtain ⟨nM, nm, nl⟩ := ok.notM n
  refine ⟨ok.lg, ok.ll, fun i xs h => ?_, fun i xs h => ?_, fun i a h e => ?_, ok.nd, fun a h => ?_⟩
  · obtain ⟨a, vs, e, z, r⟩ := ok.g i xs h
    exact ⟨a, vs, e, by rw [upd_ne (ne_of_none z n)]; exact z, r.conv (hold_fr n)⟩
  · obtain ⟨a, vs, e, z, r⟩ := ok.l i xs h
    exact ⟨a, vs, e, by rw [upd_ne (ne_of_none z n)]; exact z, r.conv (hold_fr n)⟩
  · obtain ⟨u, z⟩ := ok.fz i a h e
    exact ⟨u, by rw [upd_ne (ne_of_none z n)]; exact z⟩
  · rcases h with h | h
    · obtain ⟨⟨u, z⟩, q⟩ := ok.fF a h
      exact ⟨⟨u, by rw [upd_ne (ne_of_none z n)]; exact z⟩, q⟩
    · subst h
      exact ⟨⟨o, upd_same⟩, nm, nl⟩
/-- the list grows -/
theorem grow_ok (hp : w.F p) (ok : WOk K H w st) : WOk K (upd H p o) w st := by
  obtain ⟨_, nm, nl⟩ := ok.fF p hp
  have fr : Fr H w st (upd H p o) w st := fun a u h m => ⟨by rw [upd_ne fun e => m (by rw [e]; exact .inr (.inr hp))]; exact h, m⟩
  refine ⟨ok.lg, ok.ll, fun i xs h => ?_, fun i xs h => ?_, fun i a h e => ?_, ok.nd, fun a h => ?_⟩
  · obtain ⟨a, vs, e, z, r⟩ := ok.g i xs h
    exact ⟨a, vs, e, by rw [upd_ne fun q => nm (by rw [← q]; exact List.mem_iff_getElem?.mpr ⟨i, e⟩)]; exact z, r.conv fr⟩
  · obtain ⟨a, vs, e, z, r⟩ := ok.l i xs h
    exact ⟨a, vs, e, by rw [upd_ne fun q => nl (by rw [← q]; exact List.mem_iff_getElem?.mpr ⟨i, e⟩)]; exact z, r.conv fr⟩
  · obtain ⟨u, z⟩ := ok.fz i a h e
    exact ⟨u, by rw [upd_ne fun q => nl (by rw [← q]; exact List.mem_iff_getElem?.mpr ⟨i, e⟩)]; exact z⟩
  · obtain ⟨⟨u, z⟩, q⟩ := ok.fF a h
    refine ⟨?_, q⟩
    by_cases e : a = p
    · subst e
      exact ⟨o, upd_same⟩
    · exact ⟨u, by rw [upd_ne e]; exact z⟩
theorem grow_fr (hp : w.F p) : Fr H w st (upd H p o) w st := fun a u h m => ⟨by rw [upd_ne fun e => m (by rw [e]; exact .inr (.inr hp))]; exact h, m⟩
/-- the way through a loop that builds the list at p: as Le, but the list itself may change -/
structure LeP (p : Addr) (H : Hp) (w : Wd) (st : Sto) (H' : Hp) (w' : Wd) (st' : Sto) : Prop where
  F : w'.F = w.F
  mu : ∃ t, w'.mu = w.mu ++ t
  la : ∃ t, w'.la = w.la ++ t
  fr : Fr H w st H' w' st'
  fo : ∀ a, w.F a → a ≠ p → H' a = H a
theorem LeP.refl : LeP p H w st H w st := ⟨rfl, ⟨[], by simp⟩, ⟨[], by simp⟩, fun _ _ h m => ⟨h, m⟩, fun _ _ _ => rfl⟩
theorem LeP.step {H2 : Hp} {w2 : Wd} {st2 : Sto} (a : LeP p H w st H1 w1 st1) (b : Le H1 w1 st1 H2 w2 st2) : LeP p H w st H2 w2 st2 where
  F := b.F.trans a.F
  mu := by
    obtain ⟨t, e⟩ := a.mu
    obtain ⟨u, e'⟩ := b.mu
    exact ⟨t ++ u, by rw [e', e, List.append_assoc]⟩
  la := by
    obtain ⟨t, e⟩ := a.la
    obtain ⟨u, e'⟩ := b.la
    exact ⟨t ++ u, by rw [e', e, List.append_assoc]⟩
  fr := fun c o h m => let z := a.fr c o h m; b.fr c o z.1 z.2
  fo := fun c h n => (b.fo c (by rw [a.F]; exact h)).trans (a.fo c h n)
theorem LeP.grow (a : LeP p H w st H1 w1 st1) (hp : w.F p) : LeP p H w st (upd H1 p o) w1 st1 where
  F := a.F
  mu := a.mu
  la := a.la
  fr := fun c u h m => let z := a.fr c u h m; grow_fr (by rw [a.F]; exact hp) c u z.1 z.2
  fo := fun c h n => by rw [upd_ne n]; exact a.fo c h n
theorem LeP.env {σ : L2.St} {env : En} (r : EnvRep K H w st σ env) (l : LeP p H w st H1 w1 st1) : EnvRep K H1 w1 st1 σ env :=
  ⟨r.1, fun i ev h => by
    obtain ⟨v, e, q⟩ := r.2 i ev h
    refine ⟨v, e, ?_⟩
    cases ev with
    | d x => exact Rep.conv l.fr q
    | lm n => obtain ⟨a, e, h⟩ := q; exact ⟨a, e, pre_get l.la h⟩
    | gm n => obtain ⟨a, e, h⟩ := q; exact ⟨a, e, pre_get l.mu h⟩
    | sc ds =>
      obtain ⟨a, xs, e, f, q⟩ := q
      exact ⟨a, xs, e, f.conv l.fr, q.conv l.fr⟩⟩
/-- the list is done: it gets its kind -/
theorem held_lst {kd : Nat} {vs : List V} {xs : List D} {k : KE} (n : H p = none) (ok : WOk K H w st) (l : LeP p (upd H p o) (w.hold p) st H1 w1 st1) (ok1 : WOk K H1 w1 st1) (hp : H1 p = some (.lst vs)) (r : Reps K H1 (w1.M st1) vs xs) (h : newL kd xs st1 k) :
    ∃ ev w' st', Le H w st H1 w' st' ∧ WOk K H1 w' st' ∧ EVRep K H1 w' st' (.ref p) ev ∧ k ev st' := by
  have hF : w1.F = fun a => w.F a ∨ a = p := l.F
  have hpF : w1.F p := by rw [hF]; exact .inr rfl
  obtain ⟨_, nm, nl⟩ := ok1.fF p hpF
  have nwF : ¬ w.F p := fun q => by
    obtain ⟨⟨u, z⟩, _⟩ := ok.fF p q
    rw [n] at z
    cases z
  -- what is not the list
  have out : ∀ (w' : Wd) (st' : Sto), (∀ a, w'.M st' a → w1.M st1 a) → Fr H w st H1 w' st' := fun w' st' hm a u h m => by
    have z := l.fr a u (by rw [upd_ne (ne_of_none h n)]; exact h) fun q => (hold_M.mp q).elim m (ne_of_none h n)
    exact ⟨z.1, fun q => z.2 (hm a q)⟩
  have fo : ∀ a, w.F a → H1 a = H a := fun a h => by
    have e : a ≠ p := fun e => nwF (by rw [← e]; exact h)
    rw [l.fo a (.inl h) e, upd_ne e]
  unfold newL at h
  split at h
  · have hM : ∀ a, Wd.M ⟨w1.mu, w1.la, w.F⟩ st1 a → w1.M st1 a := fun a q => by
      rcases q with q | q | q
      · exact .inl q
      · exact .inr (.inl q)
      · exact .inr (.inr (by rw [hF]; exact .inl q))
    have cv : Fr H1 w1 st1 H1 ⟨w1.mu, w1.la, w.F⟩ st1 := fun a u h m => ⟨h, fun q => m (hM a q)⟩
    have np : ¬ Wd.M ⟨w1.mu, w1.la, w.F⟩ st1 p := fun q => by
      rcases q with q | ⟨i, ys, q, _⟩ | q
      · exact nm q
      · exact nl (List.mem_iff_getElem?.mpr ⟨i, q⟩)
      · exact nwF q
    refine ⟨.d (.list xs), ⟨w1.mu, w1.la, w.F⟩, st1, ⟨rfl, l.mu, l.la, out _ _ hM, fo⟩, ⟨ok1.lg, ok1.ll, fun i ys h => ?_, fun i ys h => ?_, ok1.fz, ok1.nd, fun a h => ?_⟩, Rep.lst hp np (r.conv cv), h⟩
    · obtain ⟨a, us, e, z, q⟩ := ok1.g i ys h
      exact ⟨a, us, e, z, q.conv cv⟩
    · obtain ⟨a, us, e, z, q⟩ := ok1.l i ys h
      exact ⟨a, us, e, z, q.conv cv⟩
    · exact ok1.fF a (by rw [hF]; exact .inl h)
  · have hM : ∀ a, Wd.M ⟨w1.mu, w1.la ++ [p], w.F⟩ ⟨st1.g, st1.l ++ [some xs]⟩ a → w1.M st1 a := fun a q => by
      rcases q with q | ⟨i, ys, q, q2⟩ | q
      · exact .inl q
      · have q : (w1.la ++ [p])[i]? = some a := q
        have q2 : (st1.l ++ [some xs])[i]? = some (some ys) := q2
        by_cases hi : i < w1.la.length
        · rw [List.getElem?_append_left hi] at q
          rw [List.getElem?_append_left (by rw [← ok1.ll]; exact hi)] at q2
          exact .inr (.inl ⟨i, ys, q, q2⟩)
        · rw [List.getElem?_append_right (by omega)] at q
          have : a = p := by
            have := List.mem_iff_getElem?.mpr ⟨_, q⟩
            simpa using this
          subst this
          exact .inr (.inr hpF)
      · exact .inr (.inr (by rw [hF]; exact .inl q))
    have cv : Fr H1 w1 st1 H1 ⟨w1.mu, w1.la ++ [p], w.F⟩ ⟨st1.g, st1.l ++ [some xs]⟩ := fun a u h m => ⟨h, fun q => m (hM a q)⟩
    have pl : ∃ t, w1.la ++ [p] = w.la ++ t := by
      obtain ⟨t, e⟩ := l.la
      exact ⟨t ++ [p], by rw [e, List.append_assoc]; rfl⟩
    refine ⟨.lm st1.l.length, ⟨w1.mu, w1.la ++ [p], w.F⟩, ⟨st1.g, st1.l ++ [some xs]⟩, ⟨rfl, l.mu, pl, out _ _ hM, fo⟩, ⟨ok1.lg, by simp [ok1.ll], fun i ys h => ?_, fun i ys h => ?_, fun i a h e => ?_, ?_, fun a h => ?_⟩, ⟨p, rfl, ?_⟩, h⟩
    · obtain ⟨a, us, e, z, q⟩ := ok1.g i ys h
      exact ⟨a, us, e, z, q.conv cv⟩
    · have h : (st1.l ++ [some xs])[i]? = some (some ys) := h
      by_cases hi : i < st1.l.length
      · rw [List.getElem?_append_left hi] at h
        obtain ⟨a, us, e, z, q⟩ := ok1.l i ys h
        exact ⟨a, us, pre_get ⟨[p], rfl⟩ e, z, q.conv cv⟩
      · have hi2 : i = st1.l.length := by
          have := (List.getElem?_eq_some_iff.mp h).1
          rw [List.length_append] at this
          simp at this
          omega
        subst hi2
        rw [List.getElem?_append_right (Nat.le_refl _)] at h
        simp at h
        subst h
        refine ⟨p, vs, ?_, hp, r.conv cv⟩
        show (w1.la ++ [p])[st1.l.length]? = some p
        rw [List.getElem?_append_right (by rw [ok1.ll]; exact Nat.le_refl _), ok1.ll]
        simp
    · have h : (st1.l ++ [some xs])[i]? = some none := h
      have e : (w1.la ++ [p])[i]? = some a := e
      by_cases hi : i < st1.l.length
      · rw [List.getElem?_append_left hi] at h
        rw [List.getElem?_append_left (by rw [ok1.ll]; exact hi)] at e
        exact ok1.fz i a h e
      · rw [List.getElem?_append_right (by omega)] at h
        have := List.mem_iff_getElem?.mpr ⟨_, h⟩
        simp at this
    · show (w1.mu ++ (w1.la ++ [p])).Nodup
      rw [← List.append_assoc]
      exact nodup_snoc ok1.nd fun h => (List.mem_append.mp h).elim nm nl
    · obtain ⟨q1, q2, q3⟩ := ok1.fF a (by rw [hF]; exact .inl h)
      exact ⟨q1, q2, fun q => (List.mem_append.mp q).elim q3 fun q => nwF (by rw [show p = a from (by simpa using q : a = p).symm]; exact h)⟩
    · show (w1.la ++ [p])[st1.l.length]? = some p
      rw [List.getElem?_append_right (by rw [ok1.ll]; exact Nat.le_refl _), ok1.ll]
      simp
  · have hM : ∀ a, Wd.M ⟨w1.mu ++ [p], w1.la, w.F⟩ ⟨st1.g ++ [xs], st1.l⟩ a → w1.M st1 a := fun a q => by
      rcases q with q | q | q
      · rcases List.mem_append.mp q with q | q
        · exact .inl q
        · have : a = p := by simpa using q
          subst this
          exact .inr (.inr hpF)
      · exact .inr (.inl q)
      · exact .inr (.inr (by rw [hF]; exact .inl q))
    have cv : Fr H1 w1 st1 H1 ⟨w1.mu ++ [p], w1.la, w.F⟩ ⟨st1.g ++ [xs], st1.l⟩ := fun a u h m => ⟨h, fun q => m (hM a q)⟩
    have pl : ∃ t, w1.mu ++ [p] = w.mu ++ t := by
      obtain ⟨t, e⟩ := l.mu
      exact ⟨t ++ [p], by rw [e, List.append_assoc]; rfl⟩
    refine ⟨.gm st1.g.length, ⟨w1.mu ++ [p], w1.la, w.F⟩, ⟨st1.g ++ [xs], st1.l⟩, ⟨rfl, pl, l.la, out _ _ hM, fo⟩, ⟨by simp [ok1.lg], ok1.ll, fun i ys h => ?_, fun i ys h => ?_, ok1.fz, ?_, fun a h => ?_⟩, ⟨p, rfl, ?_⟩, h⟩
    · have h : (st1.g ++ [xs])[i]? = some ys := h
      by_cases hi : i < st1.g.length
      · rw [List.getElem?_append_left hi] at h
        obtain ⟨a, us, e, z, q⟩ := ok1.g i ys h
        exact ⟨a, us, pre_get ⟨[p], rfl⟩ e, z, q.conv cv⟩
      · have hi2 : i = st1.g.length := by
          have := (List.getElem?_eq_some_iff.mp h).1
          rw [List.length_append] at this
          simp at this
          omega
        subst hi2
        rw [List.getElem?_append_right (Nat.le_refl _)] at h
        simp at h
        subst h
        refine ⟨p, vs, ?_, hp, r.conv cv⟩
        show (w1.mu ++ [p])[st1.g.length]? = some p
        rw [List.getElem?_append_right (by rw [ok1.lg]; exact Nat.le_refl _), ok1.lg]
        simp
    · obtain ⟨a, us, e, z, q⟩ := ok1.l i ys h
      exact ⟨a, us, e, z, q.conv cv⟩
    · show ((w1.mu ++ [p]) ++ w1.la).Nodup
      rw [List.append_assoc]
      refine (List.Perm.nodup_iff (List.Perm.append_left w1.mu (List.perm_append_comm (l₁ := [p]) (l₂ := w1.la)))).mpr ?_
      rw [← List.append_assoc]
      exact nodup_snoc ok1.nd fun h => (List.mem_append.mp h).elim nm nl
    · obtain ⟨q1, q2, q3⟩ := ok1.fF a (by rw [hF]; exact .inl h)
      exact ⟨q1, fun q => (List.mem_append.mp q).elim q2 fun q => nwF (by rw [show p = a from (by simpa using q : a = p).symm]; exact h), q3⟩
    · show (w1.mu ++ [p])[st1.g.length]? = some p
      rw [List.getElem?_append_right (by rw [ok1.lg]; exact Nat.le_refl _), ok1.lg]
      simp
end
/-! ### the block -/
theorem wipe_get {σ : L2.St} {j : Nat} : ∀ {vs : List Nat}, (wipe σ vs)[j]? = if j ∈ vs ∧ j < σ.length then some none else σ[j]?
  | [] => by simp [wipe]
  | v :: vs => by
    unfold wipe
    by_cases h : v = j
    · subst h
      by_cases hl : v < σ.length
      · rw [List.getElem?_set_self (by rw [wipe_length]; exact hl), if_pos ⟨List.mem_cons_self, hl⟩]
      · rw [if_neg fun z => hl z.2, List.getElem?_eq_none (by rw [List.length_set, wipe_length]; omega), List.getElem?_eq_none (by omega)]
    · rw [List.getElem?_set_ne h, wipe_get (vs := vs)]
      have : j ∈ v :: vs ↔ j ∈ vs := by
        rw [List.mem_cons]
        exact ⟨fun z => z.elim (fun e => absurd e.symm h) id, .inr⟩
      simp only [this]
theorem wipe_of {σ σ' : L2.St} {vs us : List Nat} (c : Chg us (wipe σ vs) σ') (h : ∀ j ∈ us, j ∈ vs) : wipe σ' vs = wipe σ vs := by
  refine List.ext_getElem? fun j => ?_
  have hl : σ'.length = σ.length := by rw [c.1, wipe_length]
  rw [wipe_get]
  by_cases hj : j ∈ vs ∧ j < σ'.length
  · rw [if_pos hj, wipe_get, if_pos ⟨hj.1, by rw [← hl]; exact hj.2⟩]
  · rw [if_neg hj]
    by_cases hm : j ∈ vs
    · have : ¬ j < σ'.length := fun z => hj ⟨hm, z⟩
      rw [List.getElem?_eq_none (by omega), List.getElem?_eq_none (by rw [wipe_length]; omega)]
    · exact c.2 j fun z => hm (h j z)
section
variable {tb : Tb}
theorem CxOk.blk {c : Ctx} {X : Cx} (cx : CxOk tb c X) (s : Shared) (H : Hp) (scope : Scope) (cl : List (Str × Addr)) (C : Addr) (fp : List Addr) :
    CxOk tb { c with sc := relS scope c.sc, fn := fun x => scope.names.lookup x == some .cell } (X.blk s H scope (compEnvC scope cl C X.env) fp) where
  xo := ⟨cx.xo.calm, rfl, cx.xo.hu, cx.xo.gd, cx.xo.nodig⟩
  mono := cx.mono
  N := cx.N
  nd := cx.nd
  sc := by
    show relS scope X.env.scope = _
    rw [cx.sc]
  fn := fun x h => h
  fns := cx.fns
  gls := cx.gls
  ok := fun n q h => let ⟨a, b, ps, k, z⟩ := (cx.ok n q h).ok; ⟨a, b, ps, k, z⟩
  gk := cx.gk
  mgn := cx.mgn
  gcd := cx.gcd
theorem pts_of {t : IE} (ht : Snd tb t) {c : Ctx} {X : Cx} (cx : CxOk tb c X) {ifs : List Expr} (h : (match ifs with
          | [] => isNil t
          | [y] => !isNil t && (ck t c).t y
          | _ => false) = true) : PTs X ifs (TTs X.K tb t) := by
  split at h
  · refine ⟨fun pins s σ H Q I q => pts_nil.run pins s σ H Q I ?_⟩
    obtain ⟨w, st, env, ok, er, q⟩ := q
    have e : t = .nil := by
      cases t <;> first | rfl | exact ff h
    subst e
    exact q H w Le.refl ok
  · exact pts_one (ht.t c X cx _ (band h).2)
  · cases h
theorem line7 {n : Nat} (h : n < 10000000) : n < sizeLine := by
  rw [sizeLine_eq]; omega
/-- the way through the loop -/
theorem cmpr_go {kd : Nat} {own : List Nat} {tg it t e : IE} (mono : tb.Mono) {K : PySem.W.Frag} (hsl : ∀ j ∈ slotsOf tg, j ∈ own) {σ : L2.St} {H : Hp} {Q : VK}
    (h : TEs K tb (.cmpr kd own tg it t e) σ H Q) : tLc (TIs K tb it) (TGs1 K tb tg) (TTs K tb t) (TEs K tb e) own σ H Q := by
  obtain ⟨w, st, env, ok, er, h⟩ := h
  refine ⟨w, st, env, ok, er, (sem_mono mono it).i _ _ _ _ (fun xs st1 h1 J H1 w1 le1 ok1 ys D nD => ?_) h⟩
  obtain ⟨hlen, h1⟩ := h1
  have er1 := hold_env (o := .lst []) nD ((er.le le1).wipe own)
  refine ⟨fun i m H' => ∃ w' st' vs acc, i ≤ xs.length ∧ m = xs.length - i ∧ acc.length ≤ i ∧ LeP D (upd H1 D (.lst [])) (w1.hold D) st1 H' w' st' ∧ WOk K H' w' st' ∧ H' D = some (.lst vs) ∧ Reps K H' (w'.M st') vs acc ∧
    loopC (sem tb tg).a (sem tb t).t (sem tb e).e (wipeE env own) (xs.drop i) st' acc fun ys s => newL kd ys s (PostW K H w st Q), ?_, ?_⟩
  · exact ⟨xs.length, w1.hold D, st1, [], [], Nat.zero_le _, rfl, Nat.le_refl _, LeP.refl, hold_ok nD ok1, upd_same, .nil, by rw [List.drop_zero]; exact h1⟩
  · rintro i m H' ⟨w', st', vs, acc, hi, hm, ha, lp, ok', hD, rs, hl⟩
    have fr : Fr H1 w1 st1 H' w' st' := fun a u h m => let z := hold_fr (o := .lst []) nD a u h m; lp.fr a u z.1 z.2
    have dF : w'.F D := by
      rw [lp.F]
      exact .inr rfl
    obtain ⟨y1, y2⟩ := ys H' w' st' fr ok' i
    by_cases hx : i < xs.length
    · have hxi : xs[i]? = some xs[i] := List.getElem?_eq_getElem hx
      rw [List.drop_eq_getElem_cons hx] at hl
      obtain ⟨go, y2⟩ := y2 _ hxi
      refine .inr ⟨go, fun H'' => ∃ w'' st'' vs acc, acc.length ≤ i + 1 ∧ LeP D (upd H1 D (.lst [])) (w1.hold D) st1 H'' w'' st'' ∧ WOk K H'' w'' st'' ∧ H'' D = some (.lst vs) ∧ Reps K H'' (w''.M st'') vs acc ∧
        loopC (sem tb tg).a (sem tb t).t (sem tb e).e (wipeE env own) (xs.drop (i + 1)) st'' acc (fun ys s => newL kd ys s (PostW K H w st Q)), fun H'' ⟨w'', st'', vs, acc, a1, a2, a3, a4, a5, a6⟩ => ⟨xs.length - (i + 1), by omega, w'', st'', vs, acc, by omega, rfl, a1, a2, a3, a4, a5, a6⟩, fun v H2 yl => ?_⟩
      obtain ⟨le2, ok2, rv⟩ := y2 v H2 yl
      refine ⟨w', st', wipeE env own, .d xs[i], ok2, (LeP.env er1 lp).le le2, rv, (sem_mono mono tg).a _ _ _ _ (fun env' hc σ2 er2 ch => ⟨wipe_of ch hsl, bT mono t ok2 er2 hc fun b st3 h3 H3 w3 le3 ok3 => ?_⟩) hl⟩
      have hD3 : H3 D = some (.lst vs) := by rw [le3.fo D dF, le2.fo D dF]; exact hD
      cases b with
      | true =>
        have h3 := brT' h3; simp only [if_true]
        refine bE mono e ok3 (er2.le le3) h3 fun ev st4 h4 y H4 w4 le4 ok4 r4 => ?_
        obtain ⟨d, rd, h4⟩ := dE_rep r4 h4
        have d3 : w3.F D := by rw [le3.F]; exact dF
        have d4 : w4.F D := by rw [le4.F]; exact d3
        have lpp := ((lp.step le2).step le3).step le4
        have rs4 := ((rs.le le2).le le3).le le4
        refine ⟨vs, by rw [le4.fo D d3]; exact hD3, line7 (by rw [rs.length]; omega), w4, st4, vs ++ [y], acc ++ [d], by rw [List.length_append, List.length_singleton]; omega, lpp.grow (.inr rfl), grow_ok d4 ok4, upd_same, ?_, h4⟩
        exact (rs4.append (.cons rd .nil)).conv (grow_fr d4)
      | false =>
        have h3 := brF' h3; simp only [Bool.false_eq_true, if_false]
        exact ⟨w3, st3, vs, acc, by omega, (lp.step le2).step le3, ok3, hD3, (rs.le le2).le le3, h3⟩
    · have e : i = xs.length := by omega
      subst e
      rw [List.drop_length] at hl
      obtain ⟨ev, w'', st'', le, ok'', r'', q⟩ := held_lst nD ok1 lp ok' hD rs hl
      exact .inl ⟨y1 (Nat.le_refl _), q _ _ w'' (le1.trans le) ok'' r''⟩
/-- the parts of a comprehension's text -/
theorem lc_parts {kd : Nat} {own : List Nat} {tg it t e : IE} (hg : Snd tb tg) (hi : Snd tb it) (ht : Snd tb t) (he : Snd tb e) {c : Ctx} {X : Cx} (cx : CxOk tb c X) {elt tgx itx : Expr} {ifs : List Expr} {a : Int} {scope : Scope} {pos : Pos}
    (h : (ck (.cmpr kd own tg it t e) c).e (.ListComp elt [⟨tgx, itx, ifs, a⟩] scope pos) = true) :
    a = 0 ∧ BlkOk X.N X.env.scope scope (own.map fun i => (c.N.getD i Str.empty, i)) ∧ (own.map fun i => (c.N.getD i Str.empty, i)).map (·.2) = own ∧ PI X tgx itx (TIs X.K tb it) ∧ (∀ x, foldedSetIterable itx X.env x = pure x) ∧ (∀ j ∈ slotsOf tg, j ∈ own) ∧
      (∀ (s : Shared) (H : Hp) (C : Addr) (cl : List (Str × Addr)) (fp : List Addr), PG (X.blk s H scope (compEnvC scope cl C X.env) fp) tgx (TGs1 X.K tb tg)) ∧
      (∀ (s : Shared) (H : Hp) (C : Addr) (cl : List (Str × Addr)) (fp : List Addr), PTs (X.blk s H scope (compEnvC scope cl C X.env) fp) ifs (TTs X.K tb t)) ∧
      (∀ (s : Shared) (H : Hp) (C : Addr) (cl : List (Str × Addr)) (fp : List Addr), PE (X.blk s H scope (compEnvC scope cl C X.env) fp) elt (TEs X.K tb e)) := by
  obtain ⟨h1, hA⟩ := band h
  obtain ⟨h2, hB⟩ := band hA
  obtain ⟨h3, hC⟩ := band hB
  obtain ⟨h4, hD⟩ := band hC
  obtain ⟨h5, hE⟩ := band hD
  obtain ⟨h6, hF⟩ := band hE
  obtain ⟨h7, h8⟩ := band hF
  refine ⟨of_decide_eq_true h1, by rw [cx.N, cx.sc]; exact blkOk_by h2, ?_, hi.i c X cx _ _ h3, fold_of h4, ?_, fun s H C cl fp => hg.g _ _ (cx.blk s H scope cl C fp) _ h5, fun s H C cl fp => pts_of ht (cx.blk s H scope cl C fp) h7, fun s H C cl fp => he.e _ _ (cx.blk s H scope cl C fp) _ h8⟩
  · rw [List.map_map]
    exact (List.map_congr_left fun _ _ => rfl).trans (List.map_id _)
  · intro j hj
    exact of_decide_eq_true (List.all_eq_true.mp h6 j hj)
theorem lc_form {kd : Nat} {own : List Nat} {tg it t e : IE} {c : Ctx} {x : Expr} (h : (ck (.cmpr kd own tg it t e) c).e x = true) : ∃ elt tgx itx ifs a scope pos, x = .ListComp elt [⟨tgx, itx, ifs, a⟩] scope pos := by
  cases x with
  | ListComp elt gs scope pos =>
    cases gs with
    | nil => exact ff h
    | cons g gs =>
      cases gs with
      | nil =>
        obtain ⟨a, b, c, d⟩ := g
        exact ⟨_, _, _, _, _, _, _, rfl⟩
      | cons _ _ =>
        obtain ⟨a, b, c, d⟩ := g
        exact ff h
  | _ => exact ff h
theorem snd_cmpr (kd : Nat) (own : List Nat) {tg it t e : IE} (hg : Snd tb tg) (hi : Snd tb it) (ht : Snd tb t) (he : Snd tb e) : Snd tb (.cmpr kd own tg it t e) := sndE (f := fun c x => (ck (.cmpr kd own tg it t e) c).e x) (fun c X cx x h => by
  obtain ⟨elt, tgx, itx, ifs, a, scope, pos, rfl⟩ := lc_form h
  obtain ⟨a0, ok, ho, pi, fs, sl, pg, pt, pe⟩ := lc_parts hg hi ht he cx h
  subst a0
  have q := pe_lc (pos := pos) cx.xo.calm cx.nd pi ok pg pt pe fs
  rw [ho] at q
  exact PE.mono q fun σ H Q h => cmpr_go cx.mono sl h) (fun _ => rfl)
theorem snd (tb : Tb) : ∀ ie : IE, Snd tb ie
  | .cst d => snd_cst d
  | .var i => snd_var i
  | .glo k => snd_glo k
  | .bin o a b => snd_bin o (snd tb a) (snd tb b)
  | .neg a => snd_neg (snd tb a)
  | .nt a => snd_nt (snd tb a)
  | .cmp o a b => snd_cmp o (snd tb a) (snd tb b)
  | .cmp2 o p a b c => snd_cmp2 o p (snd tb a) (snd tb b) (snd tb c)
  | .isN a => snd_isN (snd tb a)
  | .notN a => snd_notN (snd tb a)
  | .an a b => snd_an (snd tb a) (snd tb b)
  | .oo a b => snd_oo (snd tb a) (snd tb b)
  | .ife t a b => snd_ife (snd tb t) (snd tb a) (snd tb b)
  | .nil => snd_nil
  | .cons a r => snd_cons (snd tb a) (snd tb r)
  | .tup r => snd_tup (snd tb r)
  | .lst kd r => snd_lst kd (snd tb r)
  | .ixc a n => snd_ixc n (snd tb a)
  | .ix a i => snd_ix (snd tb a) (snd tb i)
  | .sl kd a lo hi => snd_sl kd (snd tb a) (snd tb lo) (snd tb hi)
  | .call n r => snd_call n (snd tb r)
  | .blt b kd r => snd_blt b kd (snd tb r)
  | .cmpr kd own tg it t e => snd_cmpr kd own (snd tb tg) (snd tb it) (snd tb t) (snd tb e)
  | .rng r => snd_rng (snd tb r)
  | .enm r => snd_enm (snd tb r)
  | .zp r => snd_zp (snd tb r)
end
end VI

/-! VI13: the check of statements; parts of its soundness. -/
namespace VI
open PySem PySem.Spec PyProof.Rows L2
def notComp : Expr → Bool
  | .ListComp .. => false
  | .SetComp .. => false
  | .DictComp .. => false
  | _ => true
def notCall : Expr → Bool
  | .Call .. => false
  | _ => true
def funB (sc : Scope) : Bool := match sc.kind with
  | .function => true
  | _ => false
def swN (sc : Scope) (line : Nat) : Expr → Option Str
  | .Name id pos => if sc.names.lookup id == some .local && pos.line == line then some id else none
  | _ => none
/-- none: not known; some none: from the left; some (some ..): from the right -/
def swB2 (sc : Scope) (ts vs : List Expr) : Option (Option (List Str)) :=
  if (!(ts.length == 2 || ts.length == 3) || vs.length != ts.length) = true then some none
  else if (vs.any fun | .Starred .. => true | _ => false) = true then some none
  else if ((ts.filterMap (swN sc ((ts.head?.map (·.pos.line)).getD 0))).length != ts.length || (ts.filterMap (swN sc ((ts.head?.map (·.pos.line)).getD 0))).eraseDups.length != (ts.filterMap (swN sc ((ts.head?.map (·.pos.line)).getD 0))).length) = true then some none
  else if (vs.all (foldedForSure 8)) = true then some none
  else if (vs.all (constantsAlone 8)) = true then none
  else some (some (ts.filterMap (swN sc ((ts.head?.map (·.pos.line)).getD 0))))
def swB (sc : Scope) (t v : Expr) : Option (Option (List Str)) := match t with
  | .Tuple ts _ _ => (match v with
    | .Tuple vs _ _ => swB2 sc ts vs
    | _ => some none)
  | .List _ _ => none
  | _ => some none
theorem swaps_of {e : Expr} {t : Option Expr} {l : Nat} {env : Env} (h : notComp e = true) : swapsWith e t l env = pure false := by
  cases e <;> first | rfl | cases h
theorem swN_eq (env : Env) (line : Nat) : (fun (x : Expr) => match x with
    | .Name id pos => if env.kindOf id == some .local && pos.line == line then some id else none
    | _ => none) = swN env.scope line := by
  funext x
  cases x <;> rfl
theorem stores_of {t v : Expr} {env : Env} {r : Option (List Str)} (hf : funB env.scope = true) (h : swB env.scope t v = some r) : swappedStores [t] v env = pure r := by
  have hk : env.scope.kind = .function := by
    unfold funB at hf
    split at hf
    · assumption
    · cases hf
  have hb : env.blockKind = .function := by
    unfold Env.blockKind
    rw [hk]
    rfl
  cases t with
  | Tuple ts k p =>
    cases v with
    | Tuple vs k2 p2 =>
      have h : swB2 env.scope ts vs = some r := h
      unfold swB2 at h
      unfold swappedStores
      simp only [hb]
      have e1 : ((ScopeKind.function != ScopeKind.function) = false) := rfl
      simp only [e1, Bool.or_false]
      split at h
      · cases h
        rename_i h1
        exact if_pos h1
      · rename_i h1
        refine (if_neg h1).trans ?_
        split at h
        · cases h
          rename_i h2
          try simp only [pure_bind]
          exact if_pos h2
        · rename_i h2
          try simp only [pure_bind]
          refine (if_neg h2).trans ?_
          try simp only [pure_bind, swN_eq]
          split at h
          · cases h
            rename_i h3
            exact if_pos h3
          · rename_i h3
            refine (if_neg h3).trans ?_
            try simp only [pure_bind]
            split at h
            · cases h
              rename_i h4
              exact if_pos h4
            · rename_i h4
              refine (if_neg h4).trans ?_
              try simp only [pure_bind]
              split at h
              · cases h
              · cases h
                rename_i h5
                refine (if_neg h5).trans ?_
                try rfl
    | _ => cases h; rfl
  | List ts p => cases h
  | _ => cases h; rfl
/-! ### the check -/
def isLc : Expr → Bool
  | .ListComp .. => true
  | _ => false
def cA (t e : IE) (c : Ctx) (tx vx : Expr) : Bool := notStar tx && (notComp vx && ((match swB c.sc tx vx with
  | some none => true
  | _ => false) && (funB c.sc && ((ck t c).g tx && (ck e c).e vx))))
def cC (t e : IE) (c : Ctx) (tx vx : Expr) : Bool := match t, e, tx, vx with
  | .var i, .cmpr kd own tg it tt el, .Name y py, .ListComp elt [⟨tgx, itx, ifs, a⟩] scope pos => decide (c.N[i]? = some y) && (isLoc c.sc y && ((py.line == pos.line) && (!(scope.names.any fun (n, k) => n == y && (k == .local || k == .cell)) && (funB c.sc && (ck (.cmpr kd own tg it tt el) c).e (.ListComp elt [⟨tgx, itx, ifs, a⟩] scope pos)))))
  | _, _, _, _ => false
def cB2 (t e : IE) (c : Ctx) (tx vx : Expr) : Bool := match t, e, tx, vx with
  | .tup (.cons (.var i) (.cons (.var j) .nil)), .tup r, .Tuple [.Name x px, .Name y py] kt pt, .Tuple [a, b] k2 pt2 => decide (c.N[i]? = some x) && (decide (c.N[j]? = some y) && (decide (i ≠ j) && (isLoc c.sc x && (isLoc c.sc y && ((ck r c).l [a, b] && (decide (swB c.sc (.Tuple [.Name x px, .Name y py] kt pt) (.Tuple [a, b] k2 pt2) = some (some [x, y])) && funB c.sc))))))
  | _, _, _, _ => false
def cB3 (t e : IE) (c : Ctx) (tx vx : Expr) : Bool := match t, e, tx, vx with
  | .tup (.cons (.var i) (.cons (.var j) (.cons (.var l) .nil))), .tup r, .Tuple [.Name x px, .Name y py, .Name z pz] kt pt, .Tuple [a, b, d] k2 pt2 => decide (c.N[i]? = some x) && (decide (c.N[j]? = some y) && (decide (c.N[l]? = some z) && (decide (i ≠ j) && (decide (i ≠ l) && (decide (j ≠ l) && (isLoc c.sc x && (isLoc c.sc y && (isLoc c.sc z && ((ck r c).l [a, b, d] &&
      (decide (swB c.sc (.Tuple [.Name x px, .Name y py, .Name z pz] kt pt) (.Tuple [a, b, d] k2 pt2) = some (some [x, y, z])) && funB c.sc))))))))))
  | _, _, _, _ => false
structure CKS where
  s : Stmt → Bool
  ss : List Stmt → Bool
def one (f : Stmt → Bool) : CKS := ⟨f, fun ss => match ss with
  | [x] => f x
  | _ => false⟩
def meth (name : Str) (a e : IE) (c : Ctx) : Stmt → Bool
  | .Expr (.Call (.Attribute o m ap) [x] [] cp) _ => decide (m = name) && (notCall o && ((ap.endLine == cp.line) && (notStar x && ((ck a c).e o && (ck e c).e x))))
  | _ => false
def isFr : IS → Option Nat
  | .freeze i => some i
  | _ => none
def ckS : IS → Ctx → CKS
  | .skip, c => ⟨fun x => match x with
      | .Pass _ => true
      | .Expr (.Constant (.str _) _ _) _ => true
      | _ => false, fun ss => ss.isEmpty⟩
  | .seq a b, c => ⟨fun _ => false, fun ss => match isFr a with
      | some _ => (ckS b c).ss ss
      | none => (match ss with
        | x :: r => (ckS a c).s x && (ckS b c).ss r
        | [] => false)⟩
  | .asg t e, c => one fun x => match x with
      | .Assign [tx] vx _ => cA t e c tx vx || (cC t e c tx vx || (cB2 t e c tx vx || cB3 t e c tx vx))
      | _ => false
  | .aug o i e, c => one fun x => match x with
      | .AugAssign (.Name y _) op v _ => decide (op = opA o) && (decide (c.N[i]? = some y) && (locB c.sc y && ((c.fn y || isLoc c.sc y) && (ck e c).e v)))
      | _ => false
  | .augS o a i e, c => one fun x => match x with
      | .AugAssign (.Subscript ox ix _) op v _ => decide (op = opA o) && (notSlice ix && ((ck a c).e ox && ((ck i c).e ix && (ck e c).e v)))
      | _ => false
  | .setI a i e, c => one fun x => match x with
      | .Assign [.Subscript ox ix _] v _ => notComp v && (notSlice ix && ((ck a c).e ox && ((ck i c).e ix && (ck e c).e v)))
      | _ => false
  | .app a e, c => one (meth "append" a e c)
  | .ext a e, c => one (meth "extend" a e c)
  | .exp e, c => one fun x => match x with
      | .Expr v _ => notComp v && (ck e c).e v
      | _ => false
  | .ifs t a b, c => one fun x => match x with
      | .If q p r _ => (ck t c).t q && ((ckS a c).ss p && (ckS b c).ss r)
      | _ => false
  | .whl t b, c => one fun x => match x with
      | .While q p [] _ => (ck t c).t q && (ckS b c).ss p
      | _ => false
  | .fr t it b, c => one fun x => match x with
      | .For tx ix p [] _ => notSet ix && ((ck it c).i tx ix && ((ck t c).g tx && (ckS b c).ss p))
      | _ => false
  | .ret e, c => one fun x => match x with
      | .Return (some v) _ => (ck e c).e v
      | _ => false
  | .ret0, _ => one fun x => match x with
      | .Return none _ => true
      | _ => false
  | .brk, _ => one fun x => match x with
      | .Break _ => true
      | _ => false
  | .cont, _ => one fun x => match x with
      | .Continue _ => true
      | _ => false
  | .never, _ => ⟨fun _ => true, fun _ => true⟩
  | .freeze _, _ => ⟨fun _ => false, fun _ => false⟩
/-! ### the reading -/
section
variable (K : PySem.W.Frag) (tb : Tb) (b : IS)
abbrev ksOf (D : Ends) (H : Hp) (w : Wd) (st : Sto) : KS where
  nx := fun env' st' => ∀ σ' H' w', Le H w st H' w' st' → WOk K H' w' st' → EnvRep K H' w' st' σ' env' → D.nx σ' H'
  rt := PostW K H w st D.rt
  bk := fun env' st' => ∀ σ' H' w', Le H w st H' w' st' → WOk K H' w' st' → EnvRep K H' w' st' σ' env' → D.bk σ' H'
  ct := fun env' st' => ∀ σ' H' w', Le H w st H' w' st' → WOk K H' w' st' → EnvRep K H' w' st' σ' env' → D.ct σ' H'
abbrev TSs : TS := fun D σ H => ∃ w st env, WOk K H w st ∧ EnvRep K H w st σ env ∧ semS tb b env st (ksOf K D H w st)
end
section
variable {K : PySem.W.Frag} {tb : Tb} {H H1 : Hp} {w w1 : Wd} {st st1 : Sto} {D : Ends}
theorem ksOf_le (le : Le H w st H1 w1 st1) : (ksOf K D H w st).Le (ksOf K D H1 w1 st1) :=
  ⟨fun e s h σ' H' w' l => h σ' H' w' (le.trans l), fun e s h v H' w' l => h v H' w' (le.trans l), fun e s h σ' H' w' l => h σ' H' w' (le.trans l), fun e s h σ' H' w' l => h σ' H' w' (le.trans l)⟩
/-- on from a later world -/
theorem on_le {b : IS} {σ : L2.St} {env : En} (ht : tb.Mono) (le : Le H w st H1 w1 st1) (ok : WOk K H1 w1 st1) (er : EnvRep K H1 w1 st1 σ env) (h : semS tb b env st1 (ksOf K D H w st)) : TSs K tb b D σ H1 :=
  ⟨w1, st1, env, ok, er, semS_mono ht b _ _ _ _ (ksOf_le le) h⟩
theorem freeze_ok {n : Nat} {a : Addr} {xs : List V} {ds : List VI.D} (ok : WOk K H w st) (hl : st.l[n]? = some (some ds)) (ha : w.la[n]? = some a) :
    Le H w st H w ⟨st.g, st.l.set n none⟩ ∧ WOk K H w ⟨st.g, st.l.set n none⟩ ∧ Rep K H (w.M ⟨st.g, st.l.set n none⟩) (.ref a) (.list ds) := by
  have hn : n < st.l.length := (List.getElem?_eq_some_iff.mp hl).1
  have hM : ∀ b, w.M ⟨st.g, st.l.set n none⟩ b → w.M st b := fun b q => by
    rcases q with q | ⟨i, ys, q, q2⟩ | q
    · exact .inl q
    · have q2 : (st.l.set n none)[i]? = some (some ys) := q2
      by_cases e : n = i
      · subst e
        rw [List.getElem?_set_self hn] at q2
        cases q2
      · rw [List.getElem?_set_ne e] at q2
        exact .inr (.inl ⟨i, ys, q, q2⟩)
    · exact .inr (.inr q)
  have fr : Fr H w st H w ⟨st.g, st.l.set n none⟩ := fun b o h m => ⟨h, fun q => m (hM b q)⟩
  have hmem : a ∈ w.la := List.mem_iff_getElem?.mpr ⟨n, ha⟩
  have na : ¬ w.M ⟨st.g, st.l.set n none⟩ a := fun q => by
    rcases q with q | ⟨i, ys, q, q2⟩ | q
    · exact nodup_parts ok.nd q hmem
    · have e : n = i := nodup_ix (ok.nd.sublist (List.sublist_append_right _ _)) ha q
      subst e
      have q2 : (st.l.set n none)[n]? = some (some ys) := q2
      rw [List.getElem?_set_self hn] at q2
      cases q2
    · exact (ok.fF a q).2.2 hmem
  obtain ⟨a', vs, e, z, r⟩ := ok.l n ds hl
  rw [ha] at e
  cases e
  refine ⟨⟨rfl, ⟨[], by simp⟩, ⟨[], by simp⟩, fr, fun _ _ => rfl⟩, ⟨ok.lg, by rw [ok.ll]; simp, fun i ys h => ?_, fun i ys h => ?_, fun i b h e => ?_, ok.nd, ok.fF⟩, .lst z na (r.conv fr)⟩
  · obtain ⟨b, us, e, z, q⟩ := ok.g i ys h
    exact ⟨b, us, e, z, q.conv fr⟩
  · have h : (st.l.set n none)[i]? = some (some ys) := h
    by_cases e : n = i
    · subst e
      rw [List.getElem?_set_self hn] at h
      cases h
    · rw [List.getElem?_set_ne e] at h
      obtain ⟨b, us, e, z, q⟩ := ok.l i ys h
      exact ⟨b, us, e, z, q.conv fr⟩
  · have h : (st.l.set n none)[i]? = some none := h
    by_cases e2 : n = i
    · subst e2
      rw [ha] at e
      cases e
      exact ⟨vs, z⟩
    · rw [List.getElem?_set_ne e2] at h
      exact ok.fz i b h e
theorem set_self {σ : L2.St} {i : Nat} {v : V} (h : σ[i]? = some (some v)) : σ.set i (some v) = σ := by
  refine List.ext_getElem? fun j => ?_
  by_cases e : i = j
  · subst e
    rw [List.getElem?_set_self (List.getElem?_eq_some_iff.mp h).1, h]
  · rw [List.getElem?_set_ne e]
/-- a list that may change gets new items -/
theorem set_ok {p : Addr} {us : List V} {ys : List VI.D} {st' : Sto} (ok : WOk K H w st) (hM : ∀ a, w.M st' a ↔ w.M st a) (hlg : st'.g.length = st.g.length) (hll : st'.l.length = st.l.length) (hp : w.M st p) (hnF : ¬ w.F p)
    (hg : ∀ (n : Nat) xs, st'.g[n]? = some xs → (w.mu[n]? = some p ∧ xs = ys) ∨ (w.mu[n]? ≠ some p ∧ st.g[n]? = some xs)) (hl : ∀ (n : Nat) xs, st'.l[n]? = some (some xs) → (w.la[n]? = some p ∧ xs = ys) ∨ (w.la[n]? ≠ some p ∧ st.l[n]? = some (some xs))) (hz : ∀ (n : Nat), st'.l[n]? = some none → st.l[n]? = some none)
    (hpz : ∀ (n : Nat), st.l[n]? = some none → w.la[n]? ≠ some p) (r : Reps K H (w.M st) us ys) : Le H w st (upd H p (.lst us)) w st' ∧ WOk K (upd H p (.lst us)) w st' := by
  have fr : Fr H w st (upd H p (.lst us)) w st' := fun a o h m => ⟨by rw [upd_ne fun e => m (by rw [e]; exact hp)]; exact h, fun q => m ((hM a).mp q)⟩
  refine ⟨⟨rfl, ⟨[], by simp⟩, ⟨[], by simp⟩, fr, fun a h => by rw [upd_ne fun e => hnF (by rw [← e]; exact h)]⟩, ⟨by rw [hlg]; exact ok.lg, by rw [hll]; exact ok.ll, fun i xs h => ?_, fun i xs h => ?_, fun i a h e => ?_, ok.nd, fun a h => ?_⟩⟩
  · rcases hg i xs h with ⟨h1, h2⟩ | ⟨h1, h2⟩
    · subst h2
      exact ⟨p, us, h1, upd_same, r.conv fr⟩
    · obtain ⟨a, vs, e, z, q⟩ := ok.g i xs h2
      exact ⟨a, vs, e, by rw [upd_ne fun q => h1 (by rw [← q]; exact e)]; exact z, q.conv fr⟩
  · rcases hl i xs h with ⟨h1, h2⟩ | ⟨h1, h2⟩
    · subst h2
      exact ⟨p, us, h1, upd_same, r.conv fr⟩
    · obtain ⟨a, vs, e, z, q⟩ := ok.l i xs h2
      exact ⟨a, vs, e, by rw [upd_ne fun q => h1 (by rw [← q]; exact e)]; exact z, q.conv fr⟩
  · have h' := hz i h
    obtain ⟨vs, z⟩ := ok.fz i a h' e
    exact ⟨vs, by rw [upd_ne fun q => hpz i h' (by rw [← q]; exact e)]; exact z⟩
  · obtain ⟨⟨o, z⟩, q⟩ := ok.fF a h
    exact ⟨⟨o, by rw [upd_ne fun e => hnF (by rw [← e]; exact h)]; exact z⟩, q⟩
theorem set_rep (ok : WOk K H w st) {v : V} {ev : EV} (r : EVRep K H w st v ev) {f : List VI.D → (List VI.D → Prop) → Prop} {k : Sto → Prop} (h : setS ev st f k) :
    ∃ (p : Addr) (vs : List V) (ds : List VI.D) (up : List VI.D → Sto), v = .ref p ∧ H p = some (.lst vs) ∧ Reps K H (w.M st) vs ds ∧ f ds (fun ys => k (up ys)) ∧ ∀ us ys, Reps K H (w.M st) us ys → Le H w st (upd H p (.lst us)) w (up ys) ∧ WOk K (upd H p (.lst us)) w (up ys) := by
  cases ev with
  | d x => exact h.elim
  | sc x => exact h.elim
  | lm n =>
    have h : (match st.l[n]? with
      | some (some xs) => f xs fun ys => k ⟨st.g, st.l.set n (some ys)⟩
      | _ => False) := h
    split at h
    · rename_i xs hx
      obtain ⟨a, rfl, ha⟩ := r
      obtain ⟨a', vs, e, z, q⟩ := ok.l n xs hx
      rw [ha] at e
      cases e
      have hn : n < st.l.length := (List.getElem?_eq_some_iff.mp hx).1
      have hmem : a ∈ w.la := List.mem_iff_getElem?.mpr ⟨n, ha⟩
      have hla : w.la.Nodup := ok.nd.sublist (List.sublist_append_right _ _)
      refine ⟨a, vs, xs, _, rfl, z, q, h, fun us ys rs => set_ok ok (fun b => ?_) rfl (by simp) (.inr (.inl ⟨n, xs, ha, hx⟩)) (fun q => (ok.fF a q).2.2 hmem) (fun i zs hz => .inr ⟨fun e => nodup_parts ok.nd (List.mem_iff_getElem?.mpr ⟨i, e⟩) hmem, hz⟩) (fun i zs hz => ?_) (fun i hz => ?_) (fun i hz e => ?_) rs⟩
      · constructor
        · rintro (g | ⟨i, zs, g, g2⟩ | g)
          · exact .inl g
          · have g2 : (st.l.set n (some ys))[i]? = some (some zs) := g2
            by_cases e : n = i
            · subst e
              exact .inr (.inl ⟨n, xs, g, hx⟩)
            · rw [List.getElem?_set_ne e] at g2
              exact .inr (.inl ⟨i, zs, g, g2⟩)
          · exact .inr (.inr g)
        · rintro (g | ⟨i, zs, g, g2⟩ | g)
          · exact .inl g
          · by_cases e : n = i
            · subst e
              exact .inr (.inl ⟨n, ys, g, List.getElem?_set_self hn⟩)
            · exact .inr (.inl ⟨i, zs, g, (List.getElem?_set_ne e).trans g2⟩)
          · exact .inr (.inr g)
      · have hz : (st.l.set n (some ys))[i]? = some (some zs) := hz
        by_cases e : n = i
        · subst e
          rw [List.getElem?_set_self hn] at hz
          cases hz
          exact .inl ⟨ha, rfl⟩
        · rw [List.getElem?_set_ne e] at hz
          exact .inr ⟨fun q => e (nodup_ix hla ha q), hz⟩
      · have hz : (st.l.set n (some ys))[i]? = some none := hz
        by_cases e : n = i
        · subst e
          rw [List.getElem?_set_self hn] at hz
          cases hz
        · rw [List.getElem?_set_ne e] at hz
          exact hz
      · have e2 : n = i := nodup_ix hla ha e
        subst e2
        rw [hx] at hz
        cases hz
    · exact h.elim
  | gm n =>
    have h : (match st.g[n]? with
      | some xs => f xs fun ys => k ⟨st.g.set n ys, st.l⟩
      | none => False) := h
    split at h
    · rename_i xs hx
      obtain ⟨a, rfl, ha⟩ := r
      obtain ⟨a', vs, e, z, q⟩ := ok.g n xs hx
      rw [ha] at e
      cases e
      have hn : n < st.g.length := (List.getElem?_eq_some_iff.mp hx).1
      have hmem : a ∈ w.mu := List.mem_iff_getElem?.mpr ⟨n, ha⟩
      have hmu : w.mu.Nodup := ok.nd.sublist (List.sublist_append_left _ _)
      refine ⟨a, vs, xs, _, rfl, z, q, h, fun us ys rs => set_ok ok (fun b => Iff.rfl) (by simp) rfl (.inl hmem) (fun q => (ok.fF a q).2.1 hmem) (fun i zs hz => ?_) (fun i zs hz => .inr ⟨fun e => nodup_parts ok.nd hmem (List.mem_iff_getElem?.mpr ⟨i, e⟩), hz⟩) (fun i hz => hz) (fun i hz e => nodup_parts ok.nd hmem (List.mem_iff_getElem?.mpr ⟨i, e⟩)) rs⟩
      have hz : (st.g.set n ys)[i]? = some zs := hz
      by_cases e : n = i
      · subst e
        rw [List.getElem?_set_self hn] at hz
        cases hz
        exact .inl ⟨ha, rfl⟩
      · rw [List.getElem?_set_ne e] at hz
        exact .inr ⟨fun q => e (nodup_ix hmu ha q), hz⟩
    · exact h.elim
end
end VI

/-! VI14: the soundness of statements. -/
namespace VI
open PySem PySem.Spec PyProof.Rows L2
/-- a list's item -/
def rGetL (K : PySem.W.Frag) : V → V → Hp → VK → Prop := fun x y H Q => ∃ p xs i v, x = .ref p ∧ y = .int i ∧ SqL K H p xs ∧ atI xs i = some v ∧ Q v H
theorem get_list {X : Cx} : PGet X (rGetL X.K) := by
  intro pins s σ H x y v u Q I rx ry h
  obtain ⟨p, xs, i, z, rfl, rfl, hq, he, q⟩ := h
  cases rx
  obtain ⟨t, rfl⟩ := ry
  obtain ⟨its, r, pl, hz⟩ := I.list hq
  obtain ⟨j, h1, h2, h3, h4, h5⟩ := atI_get he
  obtain ⟨w, ew, rw'⟩ := r.get h2
  have hl := r.length
  have hn := line63
  have fin : EP X pins σ Q w s := ⟨z, H, I, rw', q⟩
  by_cases h0 : 0 ≤ i
  · have hj : i.toNat = j := by
      rw [seqIndex_of h0 h5] at h1
      exact Option.some.inj h1
    exact wpAny_getItem_list pl.isList h0 (by omega) (by rw [hj]; simpa using ew) fin
  · have hj : (i + (its.toArray.size : Int)).toNat = j := by
      rw [seqIndex_neg (by omega) h4] at h1
      rw [List.size_toArray, ← hl]
      exact Option.some.inj h1
    exact wpAny_getItem_list_neg pl.isList (by omega) (by rw [List.size_toArray] <;> omega) (by omega) (by rw [hj]; simpa using ew) fin
structure SndS (tb : Tb) (b : IS) : Prop where
  s : ∀ c X, CxOk tb c X → ∀ x, (ckS b c).s x = true → PS X x (TSs X.K tb b)
  ss : ∀ c X, CxOk tb c X → ∀ x, (ckS b c).ss x = true → PSs X x (TSs X.K tb b)
theorem passes {tb : Tb} {c : Ctx} {X : Cx} (cx : CxOk tb c X) : PassesOwn (model X.prog X.w) X.A X.env X.xe := by
  rw [cx.xo.xe]
  exact PassesOwn.never
theorem sndOne {tb : Tb} {b : IS} {f : Ctx → Stmt → Bool} (h : ∀ c X, CxOk tb c X → ∀ x, f c x = true → PS X x (TSs X.K tb b)) (hc : ∀ c, ckS b c = one (f c)) : SndS tb b where
  s := fun c X cx x q => h c X cx x (by rw [hc] at q; exact q)
  ss := fun c X cx x q => by
    rw [hc] at q
    match x, q with
    | [y], q => exact pss_one (h c X cx y q)
    | [], q => cases q
    | _ :: _ :: _, q => cases q
section
variable {tb : Tb}
theorem sd_skip : SndS tb .skip where
  s := fun c X cx x h => by
    cases x with
    | Pass p => exact PS.mono ps_pass fun D σ H ⟨w, st, env, ok, er, h⟩ => h σ H w Le.refl ok er
    | Expr e p =>
      cases e with
      | Constant k j q =>
        cases k with
        | str z => exact PS.mono ps_doc fun D σ H ⟨w, st, env, ok, er, h⟩ => h σ H w Le.refl ok er
        | _ => cases h
      | _ => cases h
    | _ => cases h
  ss := fun c X cx x h => by
    have h : x.isEmpty = true := h
    cases x with
    | nil => exact PSs.mono pss_nil fun D σ H ⟨w, st, env, ok, er, h⟩ => h σ H w Le.refl ok er
    | cons _ _ => cases h
theorem sd_seq {a b : IS} (ha : SndS tb a) (hb : SndS tb b) : SndS tb (.seq a b) where
  s := fun c X cx x h => ff h
  ss := fun c X cx x h => by
    have h : (match isFr a with
      | some _ => (ckS b c).ss x
      | none => (match (generalizing := false) x with
        | x :: r => (ckS a c).s x && (ckS b c).ss r
        | [] => false)) = true := h
    cases hf : isFr a with
    | some i =>
      rw [hf] at h
      have ea : a = .freeze i := by
        cases a <;> first | (cases hf; rfl) | cases hf
      subst ea
      refine PSs.mono (hb.ss c X cx x h) fun D σ H ⟨w, st, env, ok, er, h⟩ => ?_
      have h : (match look env i with
        | some (.lm n) => (match st.l[n]? with
          | some (some xs) => semS tb b (put env i (.d (.list xs))) ⟨st.g, st.l.set n none⟩ (ksOf X.K D H w st)
          | _ => False)
        | _ => False) := h
      split at h
      · rename_i n hl
        split at h
        · rename_i xs hx
          obtain ⟨v, hv, a, rfl, ha⟩ := er.look hl
          obtain ⟨le, ok', r⟩ := freeze_ok (xs := []) ok hx ha
          have er' := (er.le le).put (ev := .d (.list xs)) r i
          rw [set_self hv] at er'
          exact on_le cx.mono le ok' er' h
        · exact h.elim
      · exact h.elim
    | none =>
      rw [hf] at h
      cases x with
      | nil => cases h
      | cons x r =>
        obtain ⟨h1, h2⟩ := band (show ((ckS a c).s x && (ckS b c).ss r) = true from h)
        refine PSs.mono (pss_cons (ha.s c X cx x h1) (hb.ss c X cx r h2)) fun D σ H ⟨w, st, env, ok, er, h⟩ => ?_
        exact ⟨w, st, env, ok, er, semS_mono cx.mono a _ _ { ksOf X.K D H w st with nx := fun env s => semS tb b env s (ksOf X.K D H w st) } (ksOf X.K { D with nx := TSs X.K tb b D } H w st) ⟨fun e s h σ' H' w' le ok' er' => on_le cx.mono le ok' er' h, fun _ _ z => z, fun _ _ z => z, fun _ _ z => z⟩ h⟩
theorem sd_aug (o : BOp) (i : Nat) (e : IE) : SndS tb (.aug o i e) := sndOne (f := fun c x => match x with
      | .AugAssign (.Name y _) op v _ => decide (op = opA o) && (decide (c.N[i]? = some y) && (locB c.sc y && ((c.fn y || isLoc c.sc y) && (ck e c).e v)))
      | _ => false) (fun c X cx x h => by
  split at h
  · obtain ⟨h1, hA⟩ := band h
    obtain ⟨h2, hB⟩ := band hA
    obtain ⟨h3, hC⟩ := band hB
    obtain ⟨h4, h5⟩ := band hC
    rw [of_decide_eq_true h1]
    have hf : X.fn _ = true ∨ X.env.scope.names.lookup _ = some .local := (Bool.or_eq_true_iff.mp h4).elim (fun z => .inl (cx.fn _ z)) fun z => .inr (isLoc_of cx.sc z)
    refine PS.mono (ps_aug (ti := rAug X.K o) cx.nd (by rw [cx.N]; exact of_decide_eq_true h2) (loc_of cx.sc h3) ((snd tb e).e c X cx _ h5) (op_aug o) hf) fun D σ H ⟨w, st, env, ok, er, h⟩ => ?_
    have h : (match look env i with
      | some x => (sem tb e).e env st fun y st' => augK o x y fun z => (ksOf X.K D H w st).nx (put env i z) st'
      | none => False) := h
    split at h
    · rename_i ev hl
      obtain ⟨v, hv, rv⟩ := er.look hl
      refine ⟨v, hv, bE cx.mono e ok er h fun ey st1 h1 y H1 w1 le1 ok1 r1 => ⟨w1, st1, ev, ey, ok1, rv.le le1, r1, augK_mono (fun z q u H2 le2 ok2 r2 => ?_) h1⟩⟩
      exact q _ H2 w1 (le1.trans le2) ok2 (((er.le le1).le le2).put r2 i)
    · exact h.elim
  · cases h) fun _ => rfl
theorem sd_ret (e : IE) : SndS tb (.ret e) := sndOne (f := fun c x => match x with
      | .Return (some v) _ => (ck e c).e v
      | _ => false) (fun c X cx x h => by
  split at h
  · exact PS.mono (ps_ret ((snd tb e).e c X cx _ h)) fun D σ H ⟨w, st, env, ok, er, h⟩ => ⟨w, st, env, ok, er, h⟩
  · cases h) fun _ => rfl
theorem sd_ret0 : SndS tb .ret0 := sndOne (f := fun _ x => match x with
      | .Return none _ => true
      | _ => false) (fun c X cx x h => by
  split at h
  · exact PS.mono ps_retN fun D σ H ⟨w, st, env, ok, er, h⟩ => h _ H w Le.refl ok Rep.non
  · cases h) fun _ => rfl
theorem sd_brk : SndS tb .brk := sndOne (f := fun _ x => match x with
      | .Break _ => true
      | _ => false) (fun c X cx x h => by
  split at h
  · exact PS.mono ps_break fun D σ H ⟨w, st, env, ok, er, h⟩ => h _ H w Le.refl ok er
  · cases h) fun _ => rfl
theorem sd_cont : SndS tb .cont := sndOne (f := fun _ x => match x with
      | .Continue _ => true
      | _ => false) (fun c X cx x h => by
  split at h
  · exact PS.mono ps_continue fun D σ H ⟨w, st, env, ok, er, h⟩ => h _ H w Le.refl ok er
  · cases h) fun _ => rfl
theorem sd_never : SndS tb .never where
  s := fun c X cx x h => PS.mono ps_never fun D σ H ⟨w, st, env, ok, er, h⟩ => h
  ss := fun c X cx x h => PSs.mono pss_never fun D σ H ⟨w, st, env, ok, er, h⟩ => h
theorem sd_freeze (i : Nat) : SndS tb (.freeze i) where
  s := fun c X cx x h => ff h
  ss := fun c X cx x h => ff h
theorem sd_exp (e : IE) : SndS tb (.exp e) := sndOne (f := fun c x => match x with
      | .Expr v _ => notComp v && (ck e c).e v
      | _ => false) (fun c X cx x h => by
  split at h
  · obtain ⟨h1, h2⟩ := band h
    exact PS.mono (ps_expr ((snd tb e).e c X cx _ h2) (swaps_of h1)) fun D σ H ⟨w, st, env, ok, er, h⟩ =>
      bE cx.mono e ok er h fun ev st1 h1 v H1 w1 le1 ok1 r1 => h1 σ H1 w1 le1 ok1 (er.le le1)
  · cases h) fun _ => rfl
theorem sd_ifs (t : IE) {a b : IS} (ha : SndS tb a) (hb : SndS tb b) : SndS tb (.ifs t a b) := sndOne (f := fun c x => match x with
      | .If q p r _ => (ck t c).t q && ((ckS a c).ss p && (ckS b c).ss r)
      | _ => false) (fun c X cx x h => by
  split at h
  · obtain ⟨h1, hA⟩ := band h
    obtain ⟨h2, h3⟩ := band hA
    refine PS.mono (ps_if ((snd tb t).t c X cx _ h1) (ha.ss c X cx _ h2) (hb.ss c X cx _ h3)) fun D σ H ⟨w, st, env, ok, er, h⟩ => ?_
    refine bT cx.mono t ok er h fun x st1 h1 H1 w1 le1 ok1 => ?_
    cases x with
    | true =>
      have h1 := brT' h1; simp only [if_true]
      exact on_le cx.mono le1 ok1 (er.le le1) h1
    | false =>
      have h1 := brF' h1; simp only [Bool.false_eq_true, if_false]
      exact on_le cx.mono le1 ok1 (er.le le1) h1
  · cases h) fun _ => rfl
theorem sd_whl (t : IE) {b : IS} (hb : SndS tb b) : SndS tb (.whl t b) := sndOne (f := fun c x => match x with
      | .While q p [] _ => (ck t c).t q && (ckS b c).ss p
      | _ => false) (fun c X cx x h => by
  split at h
  · obtain ⟨h1, h2⟩ := band h
    refine PS.mono (ps_while (passes cx) ((snd tb t).t c X cx _ h1) (hb.ss c X cx _ h2)) fun D σ H ⟨w, st, env, ok, er, h⟩ => ?_
    obtain ⟨I, ⟨m0, h0⟩, hs⟩ := (show whlK (sem tb t).t (semS tb b) env st (ksOf X.K D H w st) from h)
    refine ⟨fun m σ' H' => ∃ w' st' env', Le H w st H' w' st' ∧ WOk X.K H' w' st' ∧ EnvRep X.K H' w' st' σ' env' ∧ I m env' st', ⟨m0, w, st, env, Le.refl, ok, er, h0⟩, ?_⟩
    rintro m σ1 H1 ⟨w1, st1, env1, le1, ok1, er1, i1⟩
    refine bT cx.mono t ok1 er1 (hs m env1 st1 i1) fun x st2 h2 H2 w2 le2 ok2 => ?_
    cases x with
    | true =>
      have h2 := brT' h2; simp only [if_true]
      refine ⟨fun σ' H' => ∃ w' st' env', Le H w st H' w' st' ∧ WOk X.K H' w' st' ∧ EnvRep X.K H' w' st' σ' env' ∧ ∃ m', m' < m ∧ I m' env' st', fun σ' H' ⟨w', st', env', a, b, d, m', e, f⟩ => ⟨m', e, w', st', env', a, b, d, f⟩, ?_⟩
      refine ⟨w2, st2, env1, ok2, er1.le le2, semS_mono cx.mono b _ _ { nx := fun e s => ∃ m', m' < m ∧ I m' e s, rt := (ksOf X.K D H w st).rt, bk := (ksOf X.K D H w st).nx, ct := fun e s => ∃ m', m' < m ∧ I m' e s } _ ⟨fun e s h σ' H' w' le ok' er' => ⟨w', s, e, (le1.trans le2).trans le, ok', er', h⟩, fun ev s h v H' w' le => h v H' w' ((le1.trans le2).trans le), fun e s h σ' H' w' le => h σ' H' w' ((le1.trans le2).trans le), fun e s h σ' H' w' le ok' er' => ⟨w', s, e, (le1.trans le2).trans le, ok', er', h⟩⟩ h2⟩
    | false =>
      have h2 := brF' h2; simp only [Bool.false_eq_true, if_false]
      exact h2 σ1 H2 w2 (le1.trans le2) ok2 (er1.le le2)
  · cases h) fun _ => rfl
theorem sd_fr (t it : IE) {b : IS} (hb : SndS tb b) : SndS tb (.fr t it b) := sndOne (f := fun c x => match x with
      | .For tx ix p [] _ => notSet ix && ((ck it c).i tx ix && ((ck t c).g tx && (ckS b c).ss p))
      | _ => false) (fun c X cx x h => by
  split at h
  · obtain ⟨h1, hA⟩ := band h
    obtain ⟨h2, hB⟩ := band hA
    obtain ⟨h3, h4⟩ := band hB
    refine PS.mono (ps_for (passes cx) cx.xo.calm ((snd tb it).i c X cx _ _ h2) ((snd tb t).g c X cx _ h3) (hb.ss c X cx _ h4) (fold_of h1)) fun D σ H ⟨w, st, env, ok, er, h⟩ => ?_
    refine ⟨w, st, env, ok, er, (sem_mono cx.mono it).i _ _ _ _ (fun xs st1 h1 J H1 w1 le1 ok1 ys => ?_) h⟩
    refine ⟨fun i m σ' H' => ∃ w' st' env', i ≤ xs.length ∧ m = xs.length - i ∧ Le H1 w1 st1 H' w' st' ∧ WOk X.K H' w' st' ∧ EnvRep X.K H' w' st' σ' env' ∧ loopF (sem tb t).a (semS tb b) (xs.drop i) env' st' (ksOf X.K D H w st),
      ⟨xs.length, w1, st1, env, Nat.zero_le _, rfl, Le.refl, ok1, er.le le1, by rw [List.drop_zero]; exact h1⟩, ?_⟩
    rintro i m σ' H' ⟨w', st', env', hi, hm, lp, ok', er', hl⟩
    obtain ⟨y1, y2⟩ := ys H' w' st' lp.fr ok' i
    by_cases hx : i < xs.length
    · have hxi : xs[i]? = some xs[i] := List.getElem?_eq_getElem hx
      rw [List.drop_eq_getElem_cons hx] at hl
      obtain ⟨go, y2⟩ := y2 _ hxi
      refine .inr ⟨go, fun σ'' H'' => ∃ w'' st'' env'', Le H1 w1 st1 H'' w'' st'' ∧ WOk X.K H'' w'' st'' ∧ EnvRep X.K H'' w'' st'' σ'' env'' ∧ loopF (sem tb t).a (semS tb b) (xs.drop (i + 1)) env'' st'' (ksOf X.K D H w st),
        fun σ'' H'' ⟨w'', st'', env'', a1, a2, a3, a4⟩ => ⟨xs.length - (i + 1), by omega, w'', st'', env'', by omega, rfl, a1, a2, a3, a4⟩, fun v H2 yl => ?_⟩
      obtain ⟨le2, ok2, rv⟩ := y2 v H2 yl
      refine ⟨w', st', env', .d xs[i], ok2, er'.le le2, rv, (sem_mono cx.mono t).a _ _ _ _ (fun env2 hc σ2 er2 ch => ?_) hl⟩
      have l2 := lp.trans le2
      have l0 := le1.trans l2
      exact ⟨w', st', env2, ok2, er2, semS_mono cx.mono b _ _ { nx := fun e s => loopF (sem tb t).a (semS tb b) (xs.drop (i + 1)) e s (ksOf X.K D H w st), rt := (ksOf X.K D H w st).rt, bk := (ksOf X.K D H w st).nx, ct := fun e s => loopF (sem tb t).a (semS tb b) (xs.drop (i + 1)) e s (ksOf X.K D H w st) } _ ⟨fun e s h σ' H' w' le ok' er' => ⟨w', s, e, l2.trans le, ok', er', h⟩, fun ev s h v H' w' le => h v H' w' (l0.trans le), fun e s h σ' H' w' le => h σ' H' w' (l0.trans le), fun e s h σ' H' w' le ok' er' => ⟨w', s, e, l2.trans le, ok', er', h⟩⟩ hc⟩
    · have e : i = xs.length := by omega
      subst e
      rw [List.drop_length] at hl
      have hl : ∀ σ' H2 w2, Le H w st H2 w2 st' → WOk X.K H2 w2 st' → EnvRep X.K H2 w2 st' σ' env' → D.nx σ' H2 := hl
      exact .inl ⟨y1 (Nat.le_refl _), hl _ _ w' (le1.trans lp) ok' er'⟩
  · cases h) fun _ => rfl
/-! ### lists that change -/
theorem sole_of {t e : Expr} {l : Nat} {env : Env} (h : notComp e = true) : swapsWithSole [t] e l env = pure false := swaps_of (t := some t) h
theorem assign_sub {o i : Expr} {pos : Pos} {env : Env} (h : notSlice i = true) : ∀ v, assign (.Subscript o i pos) env v = (do
      let ov ← holding [v] (eval o env)
      let iv ← holding [v, ov] (eval i env)
      standAt pos
      holding [v, ov, iv] (setItem ov iv v)
      release [v, ov, iv] []) := by
  intro v
  cases i <;> first | rfl | cases h
theorem store_sub {i : Expr} (h : notSlice i = true) : ∀ ov iv new, augStore i ov iv new = (do holding [new, ov, iv] (setItem ov iv new); release [new, ov, iv] []; pure .next) := by
  intro ov iv new
  cases i <;> first | rfl | cases h
theorem sd_setI (a i e : IE) : SndS tb (.setI a i e) := sndOne (f := fun c x => match x with
      | .Assign [.Subscript ox ix _] v _ => notComp v && (notSlice ix && ((ck a c).e ox && ((ck i c).e ix && (ck e c).e v)))
      | _ => false) (fun c X cx x h => by
  split at h
  · obtain ⟨h1, h0⟩ := band h
    obtain ⟨hs, hA⟩ := band h0
    obtain ⟨h2, hB⟩ := band hA
    obtain ⟨h3, h4⟩ := band hB
    refine PS.mono (ps_asg ((snd tb e).e c X cx _ h4) (pg_sub ((snd tb a).e c X cx _ h2) ((snd tb i).e c X cx _ h3) set_list (assign_sub hs)) (sole_of h1)) fun D σ H ⟨w, st, env, ok, er, h⟩ => ?_
    refine bE cx.mono e ok er h fun ev st1 h1 v H1 w1 le1 ok1 r1 => bE cx.mono a ok1 (er.le le1) h1 fun ex st2 h2 o H2 w2 le2 ok2 r2 => bE cx.mono i ok2 (er.le (le1.trans le2)) h2 fun ej st3 h3 k H3 w3 le3 ok3 r3 => ?_
    obtain ⟨d, rd, h3⟩ := dE_rep r1 h3
    obtain ⟨p, vs, ds, up, rfl, hp, rs, hf, hup⟩ := set_rep ok3 (r2.le le3) h3
    cases ej with
    | d dj =>
      cases dj with
      | int n =>
        cases (show Rep _ _ _ k _ from r3)
        have hf : (match L2.ixN ds.length n with
          | some m => (ksOf X.K D H w st).nx env (up (ds.set m d))
          | none => False) := hf
        split at hf
        · rename_i m hm
          have l3 := (le1.trans le2).trans le3
          obtain ⟨le4, ok4⟩ := hup (vs.set m v) (ds.set m d) (Reps.set (rd.le (le2.trans le3)) m rs)
          exact ⟨p, vs, n, m, rfl, rfl, hp, by rw [rs.length]; exact hm, hf σ _ w3 (l3.trans le4) ok4 ((er.le l3).le le4)⟩
        · exact hf.elim
      | _ => exact hf.elim
    | _ => exact hf.elim
  · cases h) fun _ => rfl
theorem sd_augS (o : BOp) (a i e : IE) : SndS tb (.augS o a i e) := sndOne (f := fun c x => match x with
      | .AugAssign (.Subscript ox ix _) op v _ => decide (op = opA o) && (notSlice ix && ((ck a c).e ox && ((ck i c).e ix && (ck e c).e v)))
      | _ => false) (fun c X cx x h => by
  split at h
  · obtain ⟨h1, hA⟩ := band h
    obtain ⟨h2, hB⟩ := band hA
    obtain ⟨h3, hC⟩ := band hB
    obtain ⟨h4, h5⟩ := band hC
    rw [of_decide_eq_true h1]
    refine PS.mono (ps_augS (tip := rAug X.K o) ((snd tb a).e c X cx _ h3) ((snd tb i).e c X cx _ h4) get_list ((snd tb e).e c X cx _ h5) (op_aug o) set_list (store_sub h2)) fun D σ H ⟨w, st, env, ok, er, h⟩ => ?_
    refine bE cx.mono a ok er h fun ex st1 h1 ov H1 w1 le1 ok1 r1 => bE cx.mono i ok1 (er.le le1) h1 fun ej st2 h2 k H2 w2 le2 ok2 r2 => ?_
    obtain ⟨b, ds, p, vs, rfl, g1, g2, g3, hb, g4⟩ := seq_rep ok2 (r1.le le2) h2
    cases ej with
    | d dj =>
      cases dj with
      | int n =>
        cases (show Rep _ _ _ k _ from r2)
        have g4 : (match L2.ixN ds.length n with
          | some m => (match ds[m]? with
            | some old => (sem tb e).e env st2 fun y st3 => augK o (.d old) y fun z => dE z fun wz => setS ex st3 (fun xs k => ixK (.d (.int n)) xs.length fun m => k (xs.set m wz)) fun s4 => (ksOf X.K D H w st).nx env s4
            | none => False)
          | none => False) := g4
        split at g4
        · rename_i m hm
          split at g4
          · rename_i old hold
            obtain ⟨u, hu, ru⟩ := g3.get hold
            have ha : atI vs n = some u := by
              unfold atI
              rw [g3.length, hm]
              exact hu
            refine ⟨p, vs, n, u, rfl, rfl, g1 hb, ha, bE cx.mono e ok2 (er.le (le1.trans le2)) g4 fun ey st3 h3 y H3 w3 le3 ok3 r3 => ?_⟩
            refine ⟨w3, st3, .d old, ey, ok3, ru.le le3, r3, augK_mono (fun z q z' H4 le4 ok4 r4 => ?_) h3⟩
            obtain ⟨d, rd, q⟩ := dE_rep r4 q
            have l4 := ((le1.trans le2).trans le3).trans le4
            obtain ⟨p', vs', ds', up, e', hp, rs, hf, hup⟩ := set_rep ok4 (((r1.le le2).le le3).le le4) q
            cases e'
            have hf : (match L2.ixN ds'.length n with
              | some m => (ksOf X.K D H w st).nx env (up (ds'.set m d))
              | none => False) := hf
            split at hf
            · rename_i m' hm'
              obtain ⟨le5, ok5⟩ := hup (vs'.set m' z') (ds'.set m' d) (Reps.set rd m' rs)
              exact ⟨p, vs', n, m', rfl, rfl, hp, by rw [rs.length]; exact hm', hf σ _ w3 (l4.trans le5) ok5 ((er.le l4).le le5)⟩
            · exact hf.elim
          · exact g4.elim
        · exact g4.elim
      | _ => exact g4.elim
    | _ => exact g4.elim
  · cases h) fun _ => rfl
end
end VI

/-! VI15: the soundness of stores, of methods of lists; of every statement. -/
namespace VI
open PySem PySem.Spec PyProof.Rows L2
section
variable {tb : Tb}
theorem base_of {o : Expr} {m : Str} {env : Env} (h : notCall o = true) : attributeBase o m env (eval o env) = eval o env := by
  cases o <;> first | rfl | cases h
theorem few_of {x : Expr} {env : Env} {p : Pos} (h : notStar x = true) : ((backTo p (starEach [x] env)).all (fun x => !x.1) && (backToKw p (keywordEach [] env)).all (fun x => x.1.isSome)
      && decide (([x] : List Expr).length + ([] : List Keyword).length + (if ([] : List Keyword).isEmpty then 0 else 1) < 30)) = true := by
  rw [star_of h]
  rfl
/-- a list that may change is a list -/
theorem mut_ty {K : PySem.W.Frag} {H : Hp} {w : Wd} {st : Sto} {v : V} {ev : EV} (ok : WOk K H w st) (r : EVRep K H w st v ev) (h : mutE ev) : tyV K "list" v H := by
  cases ev with
  | d x => exact h.elim
  | sc x => exact h.elim
  | lm n =>
    obtain ⟨a, rfl, ha⟩ := r
    have hl : n < st.l.length := by rw [← ok.ll]; exact (List.getElem?_eq_some_iff.mp ha).1
    have hs : st.l[n]? = some st.l[n] := List.getElem?_eq_getElem hl
    cases q : st.l[n] with
    | none =>
      rw [q] at hs
      obtain ⟨vs, z⟩ := ok.fz n a hs ha
      exact .inl ⟨rfl, vs, SqL.of z⟩
    | some xs =>
      rw [q] at hs
      obtain ⟨a', vs, e, z, _⟩ := ok.l n xs hs
      rw [ha] at e
      cases e
      exact .inl ⟨rfl, vs, SqL.of z⟩
  | gm n =>
    obtain ⟨a, rfl, ha⟩ := r
    have hl : n < st.g.length := by rw [← ok.lg]; exact (List.getElem?_eq_some_iff.mp ha).1
    obtain ⟨a', vs, e, z, _⟩ := ok.g n _ (List.getElem?_eq_getElem hl)
    rw [ha] at e
    cases e
    exact .inl ⟨rfl, vs, SqL.of z⟩
theorem meth_form {name : Str} {a e : IE} {c : Ctx} {x : Stmt} (h : meth name a e c x = true) : ∃ o ap y cp p, x = .Expr (.Call (.Attribute o name ap) [y] [] cp) p ∧ notCall o = true ∧ (ap.endLine == cp.line) = true ∧ notStar y = true ∧ (ck a c).e o = true ∧ (ck e c).e y = true := by
  unfold meth at h
  split at h
  · obtain ⟨h1, hA⟩ := band h
    obtain ⟨h2, hB⟩ := band hA
    obtain ⟨h3, hC⟩ := band hB
    obtain ⟨h4, hD⟩ := band hC
    obtain ⟨h5, h6⟩ := band hD
    rw [of_decide_eq_true h1]
    exact ⟨_, _, _, _, _, rfl, h2, h3, h4, h5, h6⟩
  · cases h
theorem lineM {n : Nat} (h : n < 1000000) : n < sizeLine := by rw [sizeLine_eq]; omega
theorem lineN {n : Nat} (h : n ≤ 1000000) : n ≤ sizeLine := by rw [sizeLine_eq]; omega
theorem sd_app (a e : IE) : SndS tb (.app a e) := sndOne (f := fun c => meth "append" a e c) (fun c X cx x h => by
  obtain ⟨o, ap, y, cp, p, rfl, h2, h3, h4, h5, h6⟩ := meth_form h
  refine PS.mono (ps_expr (pe_bm PySem.F.plainAttrs_list PySem.F.slot_list_append PySem.F.type_list_append mt_append ((snd tb a).e c X cx _ h5) (pa_cons ((snd tb e).e c X cx _ h6) pa_nil (star_of h4)) (base_of h2) (few_of h4) h3 (star_of h4) rfl) (swaps_of rfl)) fun D σ H ⟨w, st, env, ok, er, h⟩ => ?_
  refine bE cx.mono a ok er h fun ex st1 h1 ov H1 w1 le1 ok1 r1 => ?_
  refine ⟨mut_ty ok1 r1 h1.1, bE cx.mono e ok1 (er.le le1) h1.2 fun ey st2 h2 v H2 w2 le2 ok2 r2 => ?_⟩
  obtain ⟨d, rd, h2⟩ := dE_rep r2 h2
  obtain ⟨q, vs, ds, up, rfl, hp, rs, hf, hup⟩ := set_rep ok2 (r1.le le2) h2
  obtain ⟨le3, ok3⟩ := hup (vs ++ [v]) (ds ++ [d]) (rs.append (.cons rd .nil))
  have l2 := le1.trans le2
  exact ⟨q, vs, v, rfl, rfl, hp, by rw [rs.length]; exact lineM hf.1, hf.2 σ _ w2 (l2.trans le3) ok3 ((er.le l2).le le3)⟩) fun _ => rfl
theorem sd_ext (a e : IE) : SndS tb (.ext a e) := sndOne (f := fun c => meth "extend" a e c) (fun c X cx x h => by
  obtain ⟨o, ap, y, cp, p, rfl, h2, h3, h4, h5, h6⟩ := meth_form h
  refine PS.mono (ps_expr (pe_bm PySem.F.plainAttrs_list PySem.F.slot_list_extend PySem.F.type_list_extend mt_extend ((snd tb a).e c X cx _ h5) (pa_cons ((snd tb e).e c X cx _ h6) pa_nil (star_of h4)) (base_of h2) (few_of h4) h3 (star_of h4) rfl) (swaps_of rfl)) fun D σ H ⟨w, st, env, ok, er, h⟩ => ?_
  refine bE cx.mono a ok er h fun ex st1 h1 ov H1 w1 le1 ok1 r1 => ?_
  refine ⟨mut_ty ok1 r1 h1.1, bE cx.mono e ok1 (er.le le1) h1.2 fun ey st2 h2 v H2 w2 le2 ok2 r2 => ?_⟩
  cases ey with
  | d dy =>
    cases dy with
    | list ys =>
      cases (show Rep _ _ _ v _ from r2) with
      | lst f m rs2 =>
        obtain ⟨q, vs, ds, up, rfl, hp, rs, hf, hup⟩ := set_rep ok2 (r1.le le2) h2
        obtain ⟨le3, ok3⟩ := hup _ (ds ++ ys) (rs.append rs2)
        have l2 := le1.trans le2
        exact ⟨q, _, vs, _, rfl, rfl, hp, f, by rw [rs.length, rs2.length]; exact lineN hf.1, hf.2 σ _ w2 (l2.trans le3) ok3 ((er.le l2).le le3)⟩
    | _ => exact h2.elim
  | _ => exact h2.elim) fun _ => rfl
/-! ### stores -/
theorem asg1_of {t : Expr} {env : Env} (h : notStar t = true) : (assignEach [t] env).map (·.2) = [assign t env] := by
  rw [asg_of h]
  rfl
theorem fin_asg {t e : IE} {X : Cx} (ht : tb.Mono) (D : Ends) (σ : L2.St) (H : Hp) (h : TSs X.K tb (.asg t e) D σ H) : tAsg (TEs X.K tb e) (TGs1 X.K tb t) D σ H := by
  obtain ⟨w, st, env, ok, er, h⟩ := h
  exact bE ht e ok er h fun ev st1 h1 v H1 w1 le1 ok1 r1 => ⟨w1, st1, env, ev, ok1, er.le le1, r1, (sem_mono ht t).a _ _ _ _ (fun env' q σ' er' _ => q σ' H1 w1 le1 ok1 er') h1⟩
theorem sd_asgA {t e : IE} {c : Ctx} {X : Cx} (cx : CxOk tb c X) {tx vx : Expr} {p : Pos} (h : cA t e c tx vx = true) : PS X (.Assign [tx] vx p) (TSs X.K tb (.asg t e)) := by
  obtain ⟨h1, hA⟩ := band h
  obtain ⟨h2, hB⟩ := band hA
  obtain ⟨h3, hC⟩ := band hB
  obtain ⟨h4, hD⟩ := band hC
  obtain ⟨h5, h6⟩ := band hD
  have hs : swB X.env.scope tx vx = some none := by
    rw [cx.sc]
    split at h3
    · assumption
    · cases h3
  exact PS.mono (ps_asg ((snd tb e).e c X cx _ h6) ((snd tb t).g c X cx _ h5) (sole_of h2) (stores_of (by rw [cx.sc]; exact h4) hs) (asg1_of h1)) fun D σ H q => fin_asg cx.mono D σ H q
theorem sd_asgC {t e : IE} {c : Ctx} {X : Cx} (cx : CxOk tb c X) {tx vx : Expr} {p : Pos} (h : cC t e c tx vx = true) : PS X (.Assign [tx] vx p) (TSs X.K tb (.asg t e)) := by
  unfold cC at h
  split at h
  · rename_i i kd own tg it tt el y py elt tgx itx ifs a scope pos
    obtain ⟨h1, hA⟩ := band h
    obtain ⟨h2, hB⟩ := band hA
    obtain ⟨h3, hC⟩ := band hB
    obtain ⟨h4, hD⟩ := band hC
    obtain ⟨h5, h6⟩ := band hD
    obtain ⟨a0, ok, ho, pi, fs, sl, pg, pt, pe⟩ := lc_parts (snd tb tg) (snd tb it) (snd tb tt) (snd tb el) cx h6
    subst a0
    have hk : X.env.scope.kind = .function := by
      rw [cx.sc]
      unfold funB at h5
      split at h5
      · assumption
      · cases h5
    have hl := isLoc_of cx.sc h2
    have q := ps_setLc (i := i) (spos := p) cx.xo.calm cx.nd (by rw [cx.N]; exact of_decide_eq_true h1) hl (sw_true hk hl h3 (by simpa using h4)) pi ok pg pt pe fs
    rw [ho] at q
    refine PS.mono q fun D σ H q => ?_
    obtain ⟨w, st, env, ok, er, h⟩ := q
    refine cmpr_go (kd := kd) cx.mono sl ⟨w, st, env, ok, er, (sem_mono cx.mono (.cmpr kd own tg it tt el)).e _ _ _ _ (fun ev st1 h1 v H1 w1 le1 ok1 r1 => ?_) h⟩
    exact h1 _ H1 w1 le1 ok1 ((er.le le1).put r1 i)
  · cases h
theorem sd_asgB2 {t e : IE} {c : Ctx} {X : Cx} (cx : CxOk tb c X) {tx vx : Expr} {p : Pos} (h : cB2 t e c tx vx = true) : PS X (.Assign [tx] vx p) (TSs X.K tb (.asg t e)) := by
  unfold cB2 at h
  split at h
  · rename_i i j r x px y py kt pt a b k2 pt2
    obtain ⟨h1, hA⟩ := band h
    obtain ⟨h2, hB⟩ := band hA
    obtain ⟨h3, hC⟩ := band hB
    obtain ⟨h4, hD⟩ := band hC
    obtain ⟨h5, hE⟩ := band hD
    obtain ⟨h6, hF⟩ := band hE
    obtain ⟨h7, h8⟩ := band hF
    refine PS.mono (ps_par cx.xo.calm cx.nd (by rw [cx.N]; exact of_decide_eq_true h1) (by rw [cx.N]; exact of_decide_eq_true h2) (of_decide_eq_true h3) (isLoc_of cx.sc h4) (isLoc_of cx.sc h5) ((snd tb r).l c X cx _ h6).1 (stores_of (by rw [cx.sc]; exact h8) (by rw [cx.sc]; exact of_decide_eq_true h7))) fun D σ H ⟨w, st, env, ok, er, h⟩ => ?_
    refine bL cx.mono r ok er h fun evs st1 q vs H1 w1 le1 ok1 r1 hl => ?_
    obtain ⟨ds, rs, q⟩ := allD_rep r1 q
    cases rs with
    | nil => cases hl
    | cons ra rs =>
      cases rs with
      | nil => cases hl
      | cons rb rs =>
        cases rs with
        | nil =>
          obtain ⟨-, q⟩ := (show [] = [] ∧ (ksOf X.K D H w st).nx (put (put env i _) j _) st1 from q)
          exact ⟨_, _, rfl, q _ H1 w1 le1 ok1 (((er.le le1).put (ev := .d _) ra i).put (ev := .d _) rb j)⟩
        | cons _ _ => cases hl
  · cases h
theorem sd_asgB3 {t e : IE} {c : Ctx} {X : Cx} (cx : CxOk tb c X) {tx vx : Expr} {p : Pos} (h : cB3 t e c tx vx = true) : PS X (.Assign [tx] vx p) (TSs X.K tb (.asg t e)) := by
  unfold cB3 at h
  split at h
  · rename_i i j l r x px y py z pz kt pt a b d k2 pt2
    obtain ⟨h1, hA⟩ := band h
    obtain ⟨h2, hB⟩ := band hA
    obtain ⟨h3, hC⟩ := band hB
    obtain ⟨h4, hD⟩ := band hC
    obtain ⟨h5, hE⟩ := band hD
    obtain ⟨h6, hF⟩ := band hE
    obtain ⟨h7, hG⟩ := band hF
    obtain ⟨h8, hH⟩ := band hG
    obtain ⟨h9, hI⟩ := band hH
    obtain ⟨hj, hJ⟩ := band hI
    obtain ⟨hk, hm⟩ := band hJ
    refine PS.mono (ps_par3 cx.xo.calm cx.nd (by rw [cx.N]; exact of_decide_eq_true h1) (by rw [cx.N]; exact of_decide_eq_true h2) (by rw [cx.N]; exact of_decide_eq_true h3) (of_decide_eq_true h4) (of_decide_eq_true h5) (of_decide_eq_true h6) (isLoc_of cx.sc h7) (isLoc_of cx.sc h8) (isLoc_of cx.sc h9) ((snd tb r).l c X cx _ hj).1 (stores_of (by rw [cx.sc]; exact hm) (by rw [cx.sc]; exact of_decide_eq_true hk))) fun D σ H ⟨w, st, env, ok, er, h⟩ => ?_
    refine bL cx.mono r ok er h fun evs st1 q vs H1 w1 le1 ok1 r1 hl => ?_
    obtain ⟨ds, rs, q⟩ := allD_rep r1 q
    cases rs with
    | nil => cases hl
    | cons ra rs =>
      cases rs with
      | nil => cases hl
      | cons rb rs =>
        cases rs with
        | nil => cases hl
        | cons rc rs =>
          cases rs with
          | nil =>
            obtain ⟨-, q⟩ := (show [] = [] ∧ (ksOf X.K D H w st).nx (put (put (put env i _) j _) l _) st1 from q)
            exact ⟨_, _, _, rfl, q _ H1 w1 le1 ok1 ((((er.le le1).put (ev := .d _) ra i).put (ev := .d _) rb j).put (ev := .d _) rc l)⟩
          | cons _ _ => cases hl
  · cases h
theorem sd_asg (t e : IE) : SndS tb (.asg t e) := sndOne (f := fun c x => match x with
      | .Assign [tx] vx _ => cA t e c tx vx || (cC t e c tx vx || (cB2 t e c tx vx || cB3 t e c tx vx))
      | _ => false) (fun c X cx x h => by
  split at h
  · rcases Bool.or_eq_true_iff.mp h with h | h
    · exact sd_asgA cx h
    · rcases Bool.or_eq_true_iff.mp h with h | h
      · exact sd_asgC cx h
      · rcases Bool.or_eq_true_iff.mp h with h | h
        · exact sd_asgB2 cx h
        · exact sd_asgB3 cx h
  · cases h) fun _ => rfl
theorem sd (tb : Tb) : ∀ b : IS, SndS tb b
  | .skip => sd_skip
  | .seq a b => sd_seq (sd tb a) (sd tb b)
  | .asg t e => sd_asg t e
  | .aug o i e => sd_aug o i e
  | .augS o a i e => sd_augS o a i e
  | .setI a i e => sd_setI a i e
  | .app a e => sd_app a e
  | .ext a e => sd_ext a e
  | .exp e => sd_exp e
  | .ifs t a b => sd_ifs t (sd tb a) (sd tb b)
  | .whl t b => sd_whl t (sd tb b)
  | .fr t it b => sd_fr t it (sd tb b)
  | .ret e => sd_ret e
  | .ret0 => sd_ret0
  | .brk => sd_brk
  | .cont => sd_cont
  | .never => sd_never
  | .freeze i => sd_freeze i
end
end VI

/-! VI16: a def by its piece; the law's end. -/
namespace VI
open PySem PySem.Spec PyProof.Rows L2
theorem guards_deeper {A : Around} {env : Env} (h : A.guards = some []) : (A.deeper env).guards = some [] := by
  first | exact h | (simpa [Around.deeper] using h)
theorem CxOk.wishD {tb : Tb} {c : Ctx} {X : Cx} (h : CxOk tb c X) : CxOk tb c X := h
/-- a frame is left -/
theorem leave {K : PySem.W.Frag} {H H' : Hp} {w w' : Wd} {g : List (List D)} {s : Sto} (hla : w.la = []) (le : Le H w ⟨g, []⟩ H' w' s) (ok : WOk K H' w' s) :
    Le H w ⟨g, []⟩ H' ⟨w'.mu, [], w'.F⟩ ⟨s.g, []⟩ ∧ WOk K H' ⟨w'.mu, [], w'.F⟩ ⟨s.g, []⟩ ∧ ∀ v ev (k : EV → Prop), EVRep K H' w' s v ev → outE ev s k → ∃ ev', EVRep K H' ⟨w'.mu, [], w'.F⟩ ⟨s.g, []⟩ v ev' ∧ k ev' := by
  have hM : ∀ a, Wd.M ⟨w'.mu, [], w'.F⟩ ⟨s.g, []⟩ a → w'.M s a := fun a q => by
    rcases q with q | ⟨i, ys, q, q2⟩ | q
    · exact .inl q
    · have q : ([] : List Addr)[i]? = some a := q
      rw [List.getElem?_nil] at q
      cases q
    · exact .inr (.inr q)
  have fr : Fr H' w' s H' ⟨w'.mu, [], w'.F⟩ ⟨s.g, []⟩ := fun a o h m => ⟨h, fun q => m (hM a q)⟩
  refine ⟨⟨le.F, le.mu, ⟨[], by simp [hla]⟩, fun a o h m => let z := le.fr a o h m; ⟨z.1, fun q => z.2 (hM a q)⟩, le.fo⟩, ⟨ok.lg, rfl, fun i xs h => ?_, fun i xs h => ?_, fun i a h e => ?_, ?_, fun a h => ?_⟩, fun v ev k r h => ?_⟩
  · obtain ⟨a, vs, e, z, q⟩ := ok.g i xs h
    exact ⟨a, vs, e, z, q.conv fr⟩
  · have h : ([] : List (Option (List D)))[i]? = some (some xs) := h
    rw [List.getElem?_nil] at h
    cases h
  · have h : ([] : List (Option (List D)))[i]? = some none := h
    rw [List.getElem?_nil] at h
    cases h
  · show (w'.mu ++ []).Nodup
    rw [List.append_nil]
    exact ok.nd.sublist (List.sublist_append_left _ _)
  · obtain ⟨q1, q2, _⟩ := ok.fF a h
    exact ⟨q1, q2, fun z => by cases z⟩
  · cases ev with
    | d x => exact ⟨.d x, Rep.conv fr r, h⟩
    | gm n => exact ⟨.gm n, r, h⟩
    | sc x => exact h.elim
    | lm n =>
      have h : (match s.l[n]? with
        | some (some xs) => k (.d (.list xs))
        | _ => False) := h
      split at h
      · rename_i xs hx
        obtain ⟨a, rfl, ha⟩ := r
        obtain ⟨a', vs, e, z, q⟩ := ok.l n xs hx
        rw [ha] at e
        cases e
        have hmem : a ∈ w'.la := List.mem_iff_getElem?.mpr ⟨n, ha⟩
        refine ⟨.d (.list xs), Rep.lst z (fun q => ?_) (q.conv fr), h⟩
        rcases q with q | ⟨i, ys, q, q2⟩ | q
        · exact nodup_parts ok.nd q hmem
        · have q : ([] : List Addr)[i]? = some a := q
          rw [List.getElem?_nil] at q
          cases q
        · exact (ok.fF a q).2.2 hmem
      · exact h.elim
/-! ### defs -/
section
variable (P : Program) (w : World) (K : PySem.W.Frag) (mg : Str → Option Value) (base : Heap)
/-- a def that stands in the module, by its meaning -/
structure Good (k : Nat) (x : Str) (ar : Nat) (f : Sem) : Prop where
  ok : ∃ (fa : Addr) (fd : FuncData) (ps : List Str), FnOkG P w K mg base k fa fd ps (spG K ar f) ∧ mg x = some (.ref fa) ∧ PySem.W.keepIn K (.ref fa) = true ∧ Binds K fd ps []
  mono : SemMono f
def AllGood (k : Nat) : List (Str × Nat × Sem) → Prop
  | [] => True
  | q :: r => Good P w K mg base k q.1 q.2.1 q.2.2 ∧ AllGood k r
def AllGl : List (Str × D) → Prop
  | [] => True
  | q :: r => (∃ u v, mg q.1 = some u ∧ RelV v u ∧ ∀ H M, Rep K H M v q.2) ∧ AllGl r
/-- what is known of the module -/
structure ModG (gcd : Bool) : Prop where
  mgn : ∀ x ∈ bltNames, mg x = none
  gcd : gcd = true → mg "gcd" = some (.builtin "math.gcd")
  nodig : base.NoDigits
end
section
variable {P : Program} {w : World} {K : PySem.W.Frag} {mg : Str → Option Value} {base : Heap}
theorem FnOkG.up {j k : Nat} {f : Addr} {fd : FuncData} {ps : List Str} {sp : Sp} (F : FnOkG P w K mg base j f fd ps sp) (h : j ≤ k) : FnOkG P w K mg base k f fd ps sp :=
  ⟨F.len, fun A outer s H args us vs Q E hr => F.run A outer s H args us vs Q E (hr.mono h)⟩
theorem Good.up {j k : Nat} {x : Str} {ar : Nat} {f : Sem} (g : Good P w K mg base j x ar f) (h : j ≤ k) : Good P w K mg base k x ar f :=
  ⟨let ⟨fa, fd, ps, F, z⟩ := g.ok; ⟨fa, fd, ps, F.up h, z⟩, g.mono⟩
theorem AllGood.get {k : Nat} : ∀ {l : List (Str × Nat × Sem)}, AllGood P w K mg base k l → ∀ q ∈ l, Good P w K mg base k q.1 q.2.1 q.2.2
  | [], _, _, h => by cases h
  | a :: r, g, q, h => by
    rcases List.mem_cons.mp h with e | e
    · rw [e]; exact g.1
    · exact AllGood.get g.2 q e
theorem AllGl.get : ∀ {l : List (Str × D)}, AllGl K mg l → ∀ q ∈ l, ∃ u v, mg q.1 = some u ∧ RelV v u ∧ ∀ H M, Rep K H M v q.2
  | [], _, _, h => by cases h
  | a :: r, g, q, h => by
    rcases List.mem_cons.mp h with e | e
    · rw [e]; exact g.1
    · exact AllGl.get g.2 q e
theorem AllGood.nil {k : Nat} : AllGood P w K mg base k [] := trivial
theorem AllGood.cons {k : Nat} {q : Str × Nat × Sem} {r : List (Str × Nat × Sem)} (g : Good P w K mg base k q.1 q.2.1 q.2.2) (a : AllGood P w K mg base k r) : AllGood P w K mg base k (q :: r) := ⟨g, a⟩
theorem AllGl.nil : AllGl K mg [] := trivial
theorem AllGl.cons {q : Str × D} {r : List (Str × D)} (g : ∃ u v, mg q.1 = some u ∧ RelV v u ∧ ∀ H M, Rep K H M v q.2) (a : AllGl K mg r) : AllGl K mg (q :: r) := ⟨g, a⟩
theorem spG_imp {ar : Nat} {f f' : Sem} (h : ∀ vs g Q, f' vs g Q → f vs g Q) {vs : List V} {H : Hp} {Q : VK} {E : XK} (q : spG K ar f' vs H Q E) : spG K ar f vs H Q E :=
  let ⟨a, w, g, evs, b, c, d, e⟩ := q; ⟨a, w, g, evs, b, c, d, h _ _ _ e⟩
abbrev outQ (K : PySem.W.Frag) (H : Hp) (w : Wd) (g : List (List D)) (Q : VK) : EV → List (List D) → Prop := fun ev g' => ∀ v H' w', w'.la = [] → Le H w ⟨g, []⟩ H' w' ⟨g', []⟩ → WOk K H' w' ⟨g', []⟩ → EVRep K H' w' ⟨g', []⟩ v ev → Q v H'
theorem EVReps.get {H : Hp} {w : Wd} {st : Sto} : ∀ {vs : List V} {evs : List EV} {i : Nat} {ev : EV}, EVReps K H w st vs evs → evs[i]? = some ev → ∃ v, vs[i]? = some v ∧ EVRep K H w st v ev
  | _, _, _, _, .nil, e => by simp at e
  | _, _, 0, _, .cons r _, e => by simp at e; subst e; exact ⟨_, rfl, r⟩
  | _, _, i + 1, _, .cons _ t, e => by
    obtain ⟨v, h1, h2⟩ := EVReps.get (i := i) t (by simpa using e)
    exact ⟨v, by simpa using h1, h2⟩
/-- the body's reading at the entry -/
theorem entry {tb : Tb} (ht : tb.Mono) {b : IS} {N ps : List Str} (hps : ps.length ≤ N.length) {vs : List V} {H : Hp} {Q : VK} {E : XK} (h : spG K ps.length (semF tb N.length b) vs H Q E) : TSs K tb b { nx := fun _ H' => Q .non H', rt := Q } (L2.start N vs) H := by
  obtain ⟨hl, w, g, evs, hla, ok, er, h⟩ := h
  have hel : evs.length = vs.length := by
    clear h hl
    induction er with
    | nil => rfl
    | cons _ _ ih => rw [List.length_cons, List.length_cons, ih]
  have h : semF tb N.length b evs g (outQ K H w g Q) := h
  refine ⟨w, ⟨g, []⟩, evs.map some ++ List.replicate (N.length - evs.length) none, ok, ?_, semS_mono ht b _ _ { nx := fun _ st => outQ K H w g Q (.d .none) st.g, rt := fun ev st => outE ev st fun v => outQ K H w g Q v st.g, bk := fun _ _ => False, ct := fun _ _ => False } _ ⟨fun e s q σ' H' w' le ok' er' => ?_, fun ev s q v H' w' le ok' r' => ?_, fun _ _ z => z.elim, fun _ _ z => z.elim⟩ h⟩
  · refine ⟨by simp [L2.start, hel], fun i ev hi => ?_⟩
    by_cases hlt : i < evs.length
    · rw [List.getElem?_append_left (by simpa using hlt), List.getElem?_map] at hi
      have hg : ∃ v, vs[i]? = some v ∧ EVRep K H w ⟨g, []⟩ v ev := by
        cases he : evs[i]? with
        | none => rw [he] at hi; cases hi
        | some e0 =>
          rw [he] at hi
          cases hi
          exact er.get he
      obtain ⟨v, h1, h2⟩ := hg
      refine ⟨v, ?_, h2⟩
      unfold L2.start
      rw [List.getElem?_append_left (by simp; omega), List.getElem?_map, h1]
      rfl
    · rw [List.getElem?_append_right (by simpa using hlt), List.getElem?_replicate] at hi
      split at hi <;> cases hi
  · obtain ⟨l1, o1, _⟩ := leave hla le ok'
    exact q .non H' _ rfl l1 o1 Rep.non
  · obtain ⟨l1, o1, k1⟩ := leave hla le ok'
    obtain ⟨ev', r1, q1⟩ := k1 v ev (fun v => outQ K H w g Q v s.g) r' q
    exact q1 v H' _ rfl l1 o1 r1
/-- THE RULE: a def of the module, by the check of its body -/
theorem def_fn {k : Nat} {x qual : Str} {params : Arguments} {body : List Stmt} {scope : Scope} {kws : List (Str × V)} {f : Addr} {fd : FuncData} {N ps : List Str} (tb : Tb) (b : IS) {gcd : Bool} (M : ModG mg base gcd) (G : AllGood P w K mg base k tb.fn) (L : AllGl K mg tb.gl)
    (F : FunD K x qual params body scope [] kws f fd) (S : FnScope N ps scope) {sp : Sem} (himp : ∀ vs g Q, sp vs g Q → semF tb N.length b vs g Q)
    (hck : (ckS b ⟨N, scope, fun _ => true, tb.fn.map fun q => (q.1, q.2.1), tb.gl.map (·.1), gcd⟩).ss body = true) : FnOkG P w K mg base (k + 1) f fd ps (spG K ps.length sp) := by
  have mono : tb.Mono := Tb.mono_of fun q hq => (G.get q hq).mono
  have hpl : ps.length ≤ N.length := by have := congrArg List.length S.pre; rw [List.length_take] at this; omega
  obtain ⟨oc, od, dV, kV, doc, pm, an, cdv, ct, osl, rfl, lk, hcd, _, _⟩ := F.ex
  refine ⟨fun vs H Q E h => h.1, fun A outer s H args us vs Q E hr hg e0 hbt r hsp => ?_⟩
  have KX : K.In s.heap := e0.mod.kin.keeps fun b o e => (e0.bs b o e).1
  have lim : s.heap.NoLimit := e0.mod.nolimit.keeps fun b o e => (e0.bs b o e).1
  refine codeAny_call_function hr.depth (KX _ _ lk) rfl S.co S.gen rfl (PySem.W.codeRec_of KX hcd) (hbt _ _ _ _ ?_)
  refine wpAny_newFunctionEnv_cells S.kind (fun ⟨n, v⟩ hy => ?_) fun env he s1 x1 => ?_
  · rcases S.par n (List.of_mem_zip hy).1 with q | q
    · exact .inl q
    · exact .inr ⟨q, PySem.W.cellsFrom_some _ _ _ (.inl q)⟩
  subst he
  refine ⟨lim.keeps x1.toInCall.keep, codeAny_func ?_⟩
  have hr' := hr.deeper (envOfC qual scope s.heap.objs.size f cdv)
  have cx : CxOk tb ⟨N, scope, fun _ => true, tb.fn.map fun q => (q.1, q.2.1), tb.gl.map (·.1), gcd⟩ (cxOf CX0 P w K mg base N qual scope f cdv A outer s H E).nox :=
    { xo := ⟨rfl, rfl, by have := hr'.un; show (A.deeper _).units + 65 < cLine; omega, guards_deeper hg, M.nodig⟩, mono := mono, N := rfl, nd := S.nd, sc := rfl, fn := fun _ _ => rfl, fns := rfl, gls := rfl,
      ok := fun n q hq => ⟨let ⟨fa, fd, ps', F', z1, z2, z3⟩ := (G.get q (List.mem_of_getElem? hq)).ok; ⟨fa, fd, ps', k, F', hr', z1, z2, z3⟩⟩,
      gk := fun n q hq => L.get q (List.mem_of_getElem? hq), mgn := M.mgn, gcd := M.gcd }
  have ht : PSs (cxOf CX0 P w K mg base N qual scope f cdv A outer s H E) body (TSs K tb b) := PSs.nox ((sd tb b).ss _ _ cx body hck)
  have hq := entry mono hpl (spG_imp himp hsp)
  have I : Inv (cxOf CX0 P w K mg base N qual scope f cdv A outer s H E) [] (L2.start N vs) H s1 := inv_start S hr.hd e0 hsp.1 r x1
  refine wpAny_mono (ht.run [] s1 (L2.start N vs) H _ I hq) (fun fl s' hs => ?_) fun e s' hs => hs
  have fin : ∀ {σ' : L2.St} {H' : Hp} {v : V} {u : Value}, Inv (cxOf CX0 P w K mg base N qual scope f cdv A outer s H E) [] σ' H' s' → RelV v u → Q v H' → CE outer P w H s Q u s' :=
    fun {σ' H' v u} J rv q => ⟨v, H', J.os, J.bare, J.base, J.hok, rv, q⟩
  cases fl with
  | ret u =>
    obtain ⟨v, σ', H', J, rv, q⟩ := hs
    exact fin J rv q
  | next =>
    obtain ⟨σ', H', J, q⟩ := hs
    exact fin (v := V.non) (u := Value.none) J rfl q
  | brk =>
    obtain ⟨_, _, _, q⟩ := hs
    exact False.elim q
  | cont =>
    obtain ⟨_, _, _, q⟩ := hs
    exact False.elim q
theorem def_ok {k : Nat} {x qual : Str} {params : Arguments} {body : List Stmt} {scope : Scope} {kws : List (Str × V)} {f : Addr} {fd : FuncData} {N ps : List Str} (tb : Tb) (b : IS) {gcd : Bool} (M : ModG mg base gcd) (G : AllGood P w K mg base k tb.fn) (L : AllGl K mg tb.gl)
    (F : FunD K x qual params body scope [] kws f fd) (S : FnScope N ps scope) (hb : Binds K fd ps []) (hx : mg x = some (.ref f)) {sp : Sem} (hm : SemMono sp) (himp : ∀ vs g Q, sp vs g Q → semF tb N.length b vs g Q)
    (hck : (ckS b ⟨N, scope, fun _ => true, tb.fn.map fun q => (q.1, q.2.1), tb.gl.map (·.1), gcd⟩).ss body = true) : Good P w K mg base (k + 1) x ps.length sp :=
  ⟨⟨f, fd, ps, def_fn tb b M G L F S himp hck, hx, F.kp, hb⟩, hm⟩
end
/-! ### the law -/
/-- the law's promise is enough -/
theorem spG_law {K : PySem.W.Frag} {f : Sem} (hm : SemMono f) {H : Hp} {a : Addr} {ns : List Int} {E : XK} (hS : SqL K H a (ns.map V.int)) (h : f [.sc (ns.map PyData.int)] [] fun ev _ => ev = .d (.bool true)) :
    spG K 1 f [.ref a] H (fun v _ => v = .bl true) E := by
  have rs : Reps K H (Wd.M ⟨[], [], fun _ => False⟩ ⟨[], []⟩) (ns.map V.int) (ns.map PyData.int) := by
    clear h hS
    induction ns with
    | nil => exact .nil
    | cons n ns ih => exact .cons (.int n) ih
  have nM : ¬ Wd.M ⟨[], [], fun _ => False⟩ ⟨[], []⟩ a := by
    rintro (q | ⟨i, ys, q, _⟩ | q)
    · cases q
    · have q : ([] : List Addr)[i]? = some a := q
      rw [List.getElem?_nil] at q
      cases q
    · exact q
  refine ⟨rfl, ⟨[], [], fun _ => False⟩, [], [.sc (ns.map PyData.int)], rfl, ⟨rfl, rfl, fun i xs q => ?_, fun i xs q => ?_, fun i b q => ?_, List.nodup_nil, fun b q => q.elim⟩, .cons ⟨a, _, rfl, hS.elim (fun z => .inl ⟨z, nM⟩) .inr, rs⟩ .nil, hm _ _ _ _ (fun ev g e v H' w' _ _ _ r => ?_) h⟩
  · simp at q
  · simp at q
  · simp at q
  · subst e
    cases (show Rep _ _ _ v _ from r)
    rfl
theorem walk_ofG {l : PySem.W.OpenLaw} {n k : Nat} {q : Program} {loose : List Str} {XP : (Str → Option Value) → Heap → Prop} {YP : World → Heap → Prop} {d : DefRec} {x : Str} {f : Sem}
    (hn : l.most = some n) (hn2 : n ≤ sizeLine) (hdf : d.params.defaults = []) (hr : Room k callerA) (hm : SemMono f)
    (F : ∀ (w : World) (mg : Str → Option Value) (fa : Addr) (h : Heap), YP w h → h.Ns mainGlobals mg → mg d.name = some (.ref fa) →
      ∃ (K : PySem.W.Frag) (fd : FuncData), K.In h ∧ (∀ (s : Shared) (u : Value), BindsTo s fd ⟨[u], []⟩ [(x, u)]) ∧ ∀ base : Heap, K.In base → base.Ns mainGlobals mg → base.NoDigits → FnOkG l.prog w K mg base k fa fd [x] (spG K 1 f))
    (hlaw : ∀ ns : List Int, ns.length ≤ n → f [.sc (ns.map PyData.int)] [] fun ev _ => ev = .d (.bool true)) :
    PySem.W.WalkO q loose XP YP l.row.toRowW d [] (fun f vs => PySem.call f vs) := by
  refine Att.attach_call hn hdf fun w s₀ s₁ mg mb fa o pm cd doc a vs ns G Y ho hd hcd hmg hobj hints hlen hg => ?_
  obtain ⟨K, fd, KX, hbind, hF⟩ := F w mg fa _ Y G.T.g hmg
  have rv := vals_ints hints
  have lenV := hints.length
  have hl : ns.length ≤ sizeLine := Nat.le_trans hlen hn2
  obtain ⟨H, hO, hS, hok, hA, hK⟩ : ∃ H : Hp, Only H ∧ SqL K H a (ns.map V.int) ∧ HOk l.prog w H s₁.heap ∧ (∀ b, H b ≠ none → b = a) ∧ (H a ≠ none → K.lookup a = none) := by
    cases hk : K.lookup a with
    | some ob =>
      have e := KX a ob hk
      rw [hobj] at e
      cases e
      exact ⟨fun _ => none, fun _ => .inl rfl, .inr ⟨_, vs.toArray, _, hk, rfl, rfl, rfl, by rw [List.size_toArray, lenV]; exact hl, by simpa using rv⟩, (fun b u z => nomatch (show (none : Option HO) = some u from z)), fun b z => absurd rfl z, fun z => absurd rfl z⟩
    | none =>
      refine ⟨fun b => if b = a then some (.frz { cls := .type "list", data := .seq vs.toArray } (.lst (ns.map V.int))) else none, fun b => ?_, .inl (.inr ⟨_, if_pos rfl⟩), fun b u z => ?_, fun b z => ?_, fun _ => rfl⟩
      · by_cases hb : b = a
        · exact .inr ⟨_, _, if_pos hb⟩
        · exact .inl (if_neg hb)
      · by_cases hb : b = a
        · have z' := (if_pos hb).symm.trans z
          cases z'
          subst hb
          exact ⟨hobj, by rw [List.length_map]; exact hl, vs, _, rv, hobj⟩
        · have z' := (if_neg hb).symm.trans z
          cases z'
      · by_cases hb : b = a
        · exact hb
        · exact absurd (if_neg hb) z
  have atA : ∀ {b : Addr}, H b ≠ none → b = a := fun {b} => hA b
  have free : ∀ {b : Addr} {o : Obj}, s₁.heap.get? b = some o → o ≠ { cls := .type "list", data := .seq vs.toArray } → H b = none := fun {b o} e ne => by
    cases q : H b with
    | none => rfl
    | some u =>
      have e' := atA (b := b) (by rw [q]; simp)
      subst e'
      rw [hobj] at e
      cases e
      exact absurd rfl ne
  have nsK : ∀ {b : Addr} {m : Str → Option Value}, s₁.heap.Ns b m → (hidT s₁.heap H).Ns b m := fun {b m} ⟨o, es, ep, e, dd, r⟩ =>
    ⟨o, es, ep, hidT_get e (free e fun z => by rw [z] at dd; cases dd), dd, r⟩
  have hKb : K.In (hidT s₁.heap H) := fun b ob e => hidT_get (KX b ob e) (by
    cases q : H b with
    | none => rfl
    | some u =>
      have e' := atA (b := b) (by rw [q]; simp)
      subst e'
      rw [hK (by rw [q]; simp)] at e
      cases e)
  have hM : Mod K mg (hidT s₁.heap H) := ⟨hKb, nsK G.T.g, ⟨mb, nsK G.T.b, G.T.builtins⟩, let ⟨mc, h1, h2⟩ := G.T.nolimit; ⟨mc, nsK h1, h2⟩⟩
  have nd : (hidT s₁.heap H).NoDigits := let ⟨mc, h1, h2⟩ := G.T.nodigits; ⟨mc, nsK h1, h2⟩
  have e0 : Env0 l.prog w K mg (hidT s₁.heap H) callerA [] s₁ H := ⟨rfl, hM, fun b ob e => of_hidT e, Nat.le_of_eq (hidT_size _ _), trivial, fun b hb => absurd (show b ∈ ([] : List Addr) from hb) (by simp), hok, .of_eq hg⟩
  refine codeAny_mono ((hF _ hKb (nsK G.T.g) nd).run callerA [] s₁ H ⟨[.ref a], []⟩ [.ref a] [.ref a] (fun v _ => v = .bl true) (fun _ _ _ => False) hr rfl e0 (hbind s₁ (.ref a)) (.cons rfl .nil) (spG_law hm hS (hlaw ns hlen))) fun r s' h => ?_
  cases r with
  | error e => exact False.elim h
  | ok fl =>
    cases fl with
    | next => exact False.elim h
    | brk => exact False.elim h
    | cont => exact False.elim h
    | ret u =>
      obtain ⟨v, H', os, bare, un, hok', r', q⟩ := h
      have q' : v = .bl true := q
      subst q'
      obtain rfl : u = Value.bool true := r'
      refine ⟨rfl, OldK.of_keep fun b ob e => ?_, os, bare⟩
      cases q : H b with
      | none => exact un.keep b ob e q (by intro z; exact absurd (show b ∈ ([] : List Addr) from z) (by simp)) (by simp)
      | some u =>
        rcases hO b with z | ⟨o2, xs, z⟩
        · rw [q] at z; cases z
        · have z2 := un.frzs b o2 _ z
          obtain ⟨e1, _⟩ := hok b _ z
          obtain ⟨e2, _⟩ := hok' b _ z2
          rw [e] at e1; cases e1
          exact e2
end VI

/-! PL: plain lemmas. -/
namespace VI
open PySem
/-! ### bounds -/
def Bd (k : Nat) (x : Int) : Prop := x.natAbs < 2 ^ k
theorem Bd.up {k l : Nat} {x : Int} (h : Bd k x) (e : k ≤ l) : Bd l x := Nat.lt_of_lt_of_le h (Nat.pow_le_pow_right (by decide) e)
theorem Bd.mul {k l : Nat} {x y : Int} (h : Bd k x) (h' : Bd l y) : Bd (k + l) (x * y) := by
  unfold Bd at *
  rw [Int.natAbs_mul, Nat.pow_add]
  exact Nat.mul_lt_mul'' h h'
theorem Bd.add {k l : Nat} {x y : Int} (h : Bd k x) (h' : Bd l y) : Bd (max k l + 1) (x + y) := by
  have h1 := h.up (Nat.le_max_left k l)
  have h2 := h'.up (Nat.le_max_right k l)
  unfold Bd at *
  have := Int.natAbs_add_le x y
  rw [Nat.pow_succ]
  omega
theorem Bd.neg {k : Nat} {x : Int} (h : Bd k x) : Bd k (-x) := by
  unfold Bd at *
  rw [Int.natAbs_neg]
  exact h
theorem Bd.sub {k l : Nat} {x y : Int} (h : Bd k x) (h' : Bd l y) : Bd (max k l + 1) (x - y) := by
  rw [Int.sub_eq_add_neg]
  exact h.add h'.neg
theorem Bd.abs {k : Nat} {x : Int} (h : Bd k x) : Bd k (x.natAbs : Int) := by
  unfold Bd at *
  rw [Int.natAbs_natCast]
  exact h
theorem Bd.of_natAbs {k : Nat} {x y : Int} (h : Bd k x) (e : y.natAbs ≤ x.natAbs) : Bd k y := Nat.lt_of_le_of_lt e h
theorem Bd.emod {k : Nat} {x y : Int} (h : Bd k y) (hy : 0 < y) : Bd k (x % y) := by
  have h1 := Int.emod_nonneg x (Int.ne_of_gt hy)
  have h2 := Int.emod_lt_of_pos x hy
  exact h.of_natAbs (by omega)
theorem Bd.fdiv {k : Nat} {x y : Int} (h : Bd k x) : Bd k (x.fdiv y) := by
  refine h.of_natAbs ?_
  rcases Int.lt_trichotomy y 0 with hy | hy | hy
  · have : x.fdiv y = (-x).fdiv (-y) := by rw [Int.neg_fdiv_neg]
    rw [this, Int.fdiv_eq_ediv_of_nonneg _ (by omega)]
    exact Nat.le_trans (Int.natAbs_ediv_le_natAbs _ _) (by rw [Int.natAbs_neg]; exact Nat.le_refl _)
  · subst hy
    rw [Int.fdiv_zero]
    simp
  · rw [Int.fdiv_eq_ediv_of_nonneg _ (by omega)]
    exact Int.natAbs_ediv_le_natAbs _ _
theorem Bd.gcd {k : Nat} {x y : Int} (h : Bd k y) (hy : y ≠ 0) : Bd k (Int.gcd x y : Int) := by
  refine h.of_natAbs ?_
  rw [Int.natAbs_natCast]
  exact Nat.le_of_dvd (by omega) (Nat.gcd_dvd_right _ _)
theorem Bd.pow {k : Nat} {x : Int} (h : Bd k x) : ∀ n : Nat, Bd (k * n + 1) (x ^ n)
  | 0 => by
    unfold Bd
    simp
  | n + 1 => by
    have ih := Bd.pow h n
    rw [Int.pow_succ]
    refine (ih.mul h).up ?_
    rw [Nat.mul_succ]
    omega
theorem Bd.lit (x : Int) : Bd (x.natAbs.log2 + 1) x := by
  unfold Bd
  exact Nat.lt_log2_self
theorem Bd.lit64 (x : Int) (h : x.natAbs < 18446744073709551616) : Bd 64 x := h
theorem Bd.log {k : Nat} {x : Int} (h : Bd k x) : x.natAbs.log2 ≤ k := by
  by_cases e : x.natAbs = 0
  · rw [e]
    exact Nat.zero_le _
  · exact Nat.le_of_lt ((Nat.log2_lt e).mpr h)
theorem Bd.mulOk {k l : Nat} {x y : Int} (h : Bd k x) (h' : Bd l y) (e : k + l < 1000000) : MulOk x y := by
  unfold MulOk
  have := h.log
  have := h'.log
  omega
theorem Bd.divOk {k : Nat} {y : Int} (h : Bd k y) (hy : y ≠ 0) (e : k < 9000) : y ≠ 0 ∧ y.natAbs.log2 < 9000 := ⟨hy, Nat.lt_of_le_of_lt h.log e⟩
theorem Bd.show {k : Nat} {y : Int} (h : Bd k y) (e : k ≤ 14000) : y.natAbs < 10 ^ 4300 := Nat.lt_of_lt_of_le (h.up e) (by decide +kernel)
/-! ### fractions in lowest terms -/
abbrev P2 : Type := Int × Int
def dF (p : P2) : D := .tuple [.int p.1, .int p.2]
def nrm (n d : Int) : P2 := if 0 < d then (n.fdiv (Int.gcd n d), d.fdiv (Int.gcd n d)) else (n.fdiv (-(Int.gcd n d : Int)), d.fdiv (-(Int.gcd n d : Int)))
structure Can (p : P2) : Prop where
  pos : 0 < p.2
  cop : Int.gcd p.1 p.2 = 1
theorem fdiv_dvd {a b : Int} (h : b ∣ a) (hb : b ≠ 0) : a.fdiv b * b = a := by
  obtain ⟨c, rfl⟩ := h
  rw [Int.mul_fdiv_cancel_left _ hb, Int.mul_comm]
theorem nrm_spec {n d : Int} (hd : d ≠ 0) : ∃ c : Int, c ≠ 0 ∧ n = (nrm n d).1 * c ∧ d = (nrm n d).2 * c ∧ 0 < (nrm n d).2 ∧ c.natAbs = Int.gcd n d := by
  have hg : (0 : Int) < (Int.gcd n d : Int) := by
    have : 0 < Int.gcd n d := Nat.pos_of_ne_zero fun e => hd (Int.eq_zero_of_gcd_eq_zero_right e)
    omega
  have d1 : (Int.gcd n d : Int) ∣ n := Int.gcd_dvd_left _ _
  have d2 : (Int.gcd n d : Int) ∣ d := Int.gcd_dvd_right _ _
  unfold nrm
  by_cases hp : 0 < d
  · rw [if_pos hp]
    refine ⟨Int.gcd n d, by omega, (fdiv_dvd d1 (by omega)).symm, (fdiv_dvd d2 (by omega)).symm, ?_, Int.natAbs_natCast _⟩
    have e := fdiv_dvd d2 (by omega)
    show 0 < d.fdiv _
    apply Int.pos_of_mul_pos_left (b := (Int.gcd n d : Int)) <;> first | (rw [e]; exact hp) | omega
  · rw [if_neg hp]
    have n1 : -(Int.gcd n d : Int) ∣ n := Int.neg_dvd.mpr d1
    have n2 : -(Int.gcd n d : Int) ∣ d := Int.neg_dvd.mpr d2
    refine ⟨-(Int.gcd n d : Int), by omega, (fdiv_dvd n1 (by omega)).symm, (fdiv_dvd n2 (by omega)).symm, ?_, by rw [Int.natAbs_neg, Int.natAbs_natCast]⟩
    have e := fdiv_dvd n2 (by omega)
    show 0 < d.fdiv _
    have e2 : d.fdiv (-(Int.gcd n d : Int)) * (Int.gcd n d : Int) = -d := by
      rw [Int.mul_neg] at e
      omega
    apply Int.pos_of_mul_pos_left (b := (Int.gcd n d : Int)) <;> first | (rw [e2]; omega) | omega
theorem nrm_can {n d : Int} (hd : d ≠ 0) : Can (nrm n d) := by
  obtain ⟨c, hc, h1, h2, h3, h4⟩ := nrm_spec (n := n) hd
  refine ⟨h3, ?_⟩
  have key : ∀ a b : Int, n = a * c → d = b * c → Int.gcd n d = Int.gcd a b * c.natAbs := by
    intro a b e1 e2
    rw [e1, e2]
    exact Int.gcd_mul_right ..
  have e := key _ _ h1 h2
  rw [← h4] at e
  have hc' : 0 < c.natAbs := by omega
  have e2 : 1 * c.natAbs = Int.gcd (nrm n d).1 (nrm n d).2 * c.natAbs := by rw [Nat.one_mul]; exact e
  exact (Nat.eq_of_mul_eq_mul_right hc' e2).symm
theorem nrm_eq {n d : Int} (hd : d ≠ 0) : (nrm n d).1 * d = n * (nrm n d).2 := by
  obtain ⟨c, hc, h1, h2, h3, h4⟩ := nrm_spec (n := n) hd
  generalize nrm n d = p at *
  rw [h1, h2]
  grind
theorem dvd_cop {a b c : Int} (h : b ∣ a * c) (g : Int.gcd a b = 1) : b ∣ c := by
  have h2 : b.natAbs ∣ a.natAbs * c.natAbs := by
    rw [← Int.natAbs_mul]
    exact Int.natAbs_dvd_natAbs.mpr h
  have g2 : Nat.Coprime b.natAbs a.natAbs := by
    rw [Nat.coprime_comm]
    exact g
  exact Int.natAbs_dvd_natAbs.mp (g2.dvd_of_dvd_mul_left h2)
theorem can_uniq {p q : P2} (hp : Can p) (hq : Can q) (e : p.1 * q.2 = q.1 * p.2) : p = q := by
  obtain ⟨a, b⟩ := p
  obtain ⟨c, d⟩ := q
  obtain ⟨p1, p2⟩ := hp
  obtain ⟨q1, q2⟩ := hq
  simp only at *
  have d1 : b ∣ d := by
    have : b ∣ a * d := ⟨c, by rw [e, Int.mul_comm]⟩
    exact dvd_cop this p2
  have d2 : d ∣ b := by
    have : d ∣ c * b := ⟨a, by rw [← e, Int.mul_comm]⟩
    exact dvd_cop this q2
  have e1 : b = d := Int.dvd_antisymm (by omega) (by omega) d1 d2
  subst e1
  have e2 : a = c := Int.eq_of_mul_eq_mul_right (by omega) e
  rw [e2]
theorem nrm_of {p : P2} {n d : Int} (hp : Can p) (hd : d ≠ 0) (e : p.1 * d = n * p.2) : nrm n d = p := by
  refine can_uniq (nrm_can hd) hp ?_
  have h := nrm_eq (n := n) hd
  have : ((nrm n d).1 * p.2) * d = (p.1 * (nrm n d).2) * d := by grind
  exact Int.eq_of_mul_eq_mul_right hd this
theorem Bd.nrm1 {k : Nat} {n d : Int} (h : Bd k n) : Bd k (nrm n d).1 := by
  unfold nrm
  split <;> exact h.fdiv
theorem Bd.nrm2 {k : Nat} {n d : Int} (h : Bd k d) : Bd k (nrm n d).2 := by
  unfold nrm
  split <;> exact h.fdiv
/-! ### the bag -/
def BagAt (C : Nat) (xs : List D) : Prop := ∃ (a b c : Int) (cs : List Int), xs = [.int a, .int b, .int c, .list (cs.map PyData.int)] ∧ Bd 31 b ∧ 0 ≤ c ∧ c ≤ C ∧ cs.length ≤ 63
theorem BagAt.up {C E : Nat} {xs : List D} (h : BagAt C xs) (e : C ≤ E) : BagAt E xs := let ⟨a, b, c, cs, h1, h2, h3, h4, h5⟩ := h; ⟨a, b, c, cs, h1, h2, h3, by omega, h5⟩
end VI

/-! PL2: data that may be compared and shown. -/
namespace VI
open PySem
theorem textFrom_up : ∀ (ts : List Str) (k : Nat) (acc : Str), (textFrom k acc ts).length ≤ acc.length + piled ts
  | [], k, acc => by
    show acc.length ≤ acc.length + piled []
    omega
  | t :: r, k, acc => by
    have h := textFrom_up r (k + 1) (acc ++ (if k > 0 then ", " else "" : String) ++ t)
    have e : (acc ++ (if k > 0 then ", " else "" : String) ++ t).length ≤ acc.length + 2 + t.length := by
      rw [strLen_append, strLen_append]
      split
      · show acc.length + 2 + t.length ≤ _
        omega
      · show acc.length + 0 + t.length ≤ _
        omega
    rw [piled_cons]
    show (textFrom (k + 1) _ r).length ≤ _
    omega
theorem listText_up (ts : List Str) : (listText ts).length ≤ 2 + piled ts := by
  unfold listText
  rw [strLen_append]
  have h := textFrom_up ts 0 "["
  have e1 : (("[" : String) : Str).length = 1 := rfl
  have e2 : (("]" : String) : Str).length = 1 := rfl
  omega
theorem tupleText_up (ts : List Str) : (tupleText ts).length ≤ 4 + piled ts := by
  unfold tupleText
  rw [strLen_append, strLen_append]
  have e1 : (("(" : String) : Str).length = 1 := rfl
  have e2 : (((if ts.length == 1 then ",)" else ")" : String)) : Str).length ≤ 2 := by
    split
    · exact Nat.le_refl _
    · show 1 ≤ 2
      omega
  by_cases h : ts = []
  · subst h
    have e3 : (Str.join ", " []).length = 0 := rfl
    omega
  · have := join_length_add ts h
    omega
/-- may be compared, may be shown -/
structure Fit (k w : Nat) (d : D) : Prop where
  lay : d.canLay0 = true
  shw : showB d = true
  dep : d.depth ≤ k
  len : d.shown.length ≤ w
theorem Fit.up {k w k' w' : Nat} {d : D} (h : Fit k w d) (e : k ≤ k') (e' : w ≤ w') : Fit k' w' d := ⟨h.lay, h.shw, Nat.le_trans h.dep e, Nat.le_trans h.len e'⟩
theorem Fit.rep {k w : Nat} {d : D} (h : Fit k w d) (e : k ≤ 64) (e' : w ≤ 16000000) : RepOk d :=
  ⟨Bool.and_eq_true_iff.mpr ⟨h.lay, decide_eq_true (Nat.le_trans h.dep e)⟩, h.shw, Nat.le_trans h.len e'⟩
theorem Fit.shp {k w : Nat} {d : D} (h : Fit k w d) (e : k ≤ 64) : Shp d := Bool.and_eq_true_iff.mpr ⟨h.lay, decide_eq_true (Nat.le_trans h.dep e)⟩
theorem Fit.int {i : Int} (h : i.natAbs < 10 ^ 4300) : Fit 0 4310 (.int i) := ⟨rfl, decide_eq_true h, Nat.le_refl _, by
  show (Str.ofString (toString i)).length ≤ 4310
  have e := int_text_length_le10 (k := 4300) (by decide) h
  clear h
  rw [ofString_length]
  omega⟩
theorem Fit.bd {k : Nat} {i : Int} (h : Bd k i) (e : k ≤ 14000) : Fit 0 4310 (.int i) := Fit.int (h.show e)
theorem Fit.bool (b : Bool) : Fit 0 5 (.bool b) := ⟨rfl, rfl, Nat.le_refl _, by cases b <;> decide⟩
theorem Fit.none : Fit 0 5 .none := ⟨rfl, rfl, Nat.le_refl _, by decide⟩
theorem all_fit {k w : Nat} : ∀ {ds : List D}, (∀ d ∈ ds, Fit k w d) → PyData.canLayAll0 ds = true ∧ showBs ds = true ∧ PyData.depthAll ds ≤ k ∧ piled (PyData.shownAll ds) ≤ ds.length * (w + 2)
  | [], _ => ⟨by simp [PyData.canLayAll0], by simp [showBs], by simp [PyData.depthAll], by simp [PyData.shownAll, piled]⟩
  | d :: ds, h => by
    obtain ⟨h1, h2, h3, h4⟩ := all_fit fun x hx => h x (List.mem_cons_of_mem _ hx)
    have f := h d List.mem_cons_self
    refine ⟨?_, ?_, ?_, ?_⟩
    · simp [PyData.canLayAll0, h1, f.lay]
    · simp [showBs, h2, f.shw]
    · simp only [PyData.depthAll]
      have := f.dep
      omega
    · simp only [PyData.shownAll, piled_cons, List.length_cons]
      have := f.len
      rw [Nat.add_mul]
      omega
theorem Fit.tup {k w : Nat} {ds : List D} (h : ∀ d ∈ ds, Fit k w d) : Fit (k + 1) (4 + ds.length * (w + 2)) (.tuple ds) := by
  obtain ⟨h1, h2, h3, h4⟩ := all_fit h
  refine ⟨by simp only [PyData.canLay0]; exact h1, by simp only [showB]; exact h2, by simp only [PyData.depth]; omega, ?_⟩
  simp only [PyData.shown]
  have := tupleText_up (PyData.shownAll ds)
  omega
theorem Fit.lst {k w : Nat} {ds : List D} (h : ∀ d ∈ ds, Fit k w d) : Fit (k + 1) (4 + ds.length * (w + 2)) (.list ds) := by
  obtain ⟨h1, h2, h3, h4⟩ := all_fit h
  refine ⟨by simp only [PyData.canLay0]; exact h1, by simp only [showB]; exact h2, by simp only [PyData.depth]; omega, ?_⟩
  simp only [PyData.shown]
  have := listText_up (PyData.shownAll ds)
  omega
theorem all_nil {P : D → Prop} : ∀ d ∈ ([] : List D), P d := fun _ h => by cases h
theorem all_cons {P : D → Prop} {x : D} {xs : List D} (h : P x) (t : ∀ d ∈ xs, P d) : ∀ d ∈ x :: xs, P d := fun d hd => (List.mem_cons.mp hd).elim (fun e => by rw [e]; exact h) (t d)
mutual
theorem eqv_refl0 : ∀ d : D, d.canLay0 = true → PyData.eqv d d = true
  | .none, _ => by rw [PyData.eqv]
  | .bool b, _ => by rw [PyData.eqv]; exact beq_self_eq_true b
  | .int i, _ => by rw [PyData.eqv]; exact beq_self_eq_true i
  | .str x, _ => by rw [PyData.eqv]; exact beq_self_eq_true x
  | .list xs, h => by rw [PyData.eqv]; exact eqvs_refl0 xs (by simpa only [PyData.canLay0] using h)
  | .tuple xs, h => by rw [PyData.eqv]; exact eqvs_refl0 xs (by simpa only [PyData.canLay0] using h)
  | .dict _, h => by simp [PyData.canLay0] at h
theorem eqvs_refl0 : ∀ ds : List D, PyData.canLayAll0 ds = true → PyData.eqvAll ds ds = true
  | [], _ => by rw [PyData.eqvAll]
  | x :: xs, h => by
    simp only [PyData.canLayAll0, Bool.and_eq_true] at h
    rw [PyData.eqvAll, eqv_refl0 x h.1, eqvs_refl0 xs h.2]
    rfl
end
theorem eqv_int (i j : Int) : PyData.eqv (.int i) (.int j) = decide (i = j) := by rw [PyData.eqv, Bool.beq_eq_decide_eq]
theorem eqv_str (i j : Str) : PyData.eqv (.str i) (.str j) = decide (i = j) := by rw [PyData.eqv, Bool.beq_eq_decide_eq]
theorem eqv_self {x : D} (h : Shp x) : PyData.eqv x x = true := eqv_refl0 x (SeqAt.canLay_of_shaped h)
/-! ### loops -/
theorem brP_mono {x : Bool} {a b a' b' : Prop} (h : a → a') (h' : b → b') (q : brP x a b) : brP x a' b' := ⟨fun z => h (q.1 z), fun z => h' (q.2 z)⟩
/-- a comprehension without a test, each turn of which gives one item -/
theorem loopC_map {tg : EV → En → (En → Prop) → Prop} {e : En → Sto → KE → Prop} {env : En} {st : Sto} (f : D → D) {k : List D → Sto → Prop} : ∀ (xs acc : List D),
    (∀ x ∈ xs, ∀ k' : EV → Sto → Prop, k' (.d (f x)) st → tg (.d x) env fun env' => e env' st k') → k (acc ++ xs.map f) st → loopC tg (fun _ st k => k true st) e env xs st acc k
  | [], acc, _, q => by
    rw [List.map_nil, List.append_nil] at q
    exact q
  | x :: xs, acc, h, q => by
    have h1 := h x List.mem_cons_self (fun ev st2 => dE ev fun y => loopC tg (fun _ st k => k true st) e env xs st2 (acc ++ [y]) k)
      (loopC_map f xs (acc ++ [f x]) (fun y hy => h y (List.mem_cons_of_mem _ hy)) (by rw [List.append_assoc]; exact q))
    exact (show tg (.d x) env fun env' => brP true (e env' st fun ev st2 => dE ev fun y => loopC tg (fun _ st k => k true st) e env xs st2 (acc ++ [y]) k) _ from by
      simp only [show ∀ a b : Prop, brP true a b = a from fun a b => propext ⟨brT', brT⟩]
      exact h1)
theorem loopC_inv {tb : Tb} (ht : tb.Mono) {t c e : IE} {env : En} {k : List D → Sto → Prop} (P : Nat → Sto → List D → Prop) {xs : List D}
    (step : ∀ i x st acc, xs[i]? = some x → P i st acc → (sem tb t).a (.d x) env fun env' => (sem tb c).t env' st fun b st1 => brP b ((sem tb e).e env' st1 fun ev st2 => dE ev fun y => P (i + 1) st2 (acc ++ [y])) (P (i + 1) st1 acc))
    (done : ∀ st acc, P xs.length st acc → k acc st) : ∀ {st : Sto} {acc : List D}, P 0 st acc → loopC (sem tb t).a (sem tb c).t (sem tb e).e env xs st acc k := by
  have go : ∀ (ys : List D) (i : Nat) (st : Sto) (acc : List D), xs.drop i = ys → i ≤ xs.length → P i st acc → loopC (sem tb t).a (sem tb c).t (sem tb e).e env ys st acc k := by
    intro ys
    induction ys with
    | nil =>
      intro i st acc hd hi hp
      have : i = xs.length := by
        have := congrArg List.length hd
        rw [List.length_drop] at this
        simp at this
        omega
      subst this
      exact done st acc hp
    | cons y ys ih =>
      intro i st acc hd hi hp
      have hlt : i < xs.length := by
        have := congrArg List.length hd
        rw [List.length_drop] at this
        simp at this
        omega
      have hx : xs[i]? = some y := by
        have := congrArg (fun l => l[0]?) hd
        simp only [List.getElem?_drop] at this
        simpa using this
      have hd' : xs.drop (i + 1) = ys := by
        have := congrArg List.tail hd
        simpa using this
      refine (sem_mono ht t).a _ _ _ _ (fun env' q => (sem_mono ht c).t _ _ _ _ (fun b st1 q => brP_mono (fun q => (sem_mono ht e).e _ _ _ _ (fun ev st2 q => ?_) q) (fun q => ?_) q) q) (step i y st acc hx hp)
      · unfold dE at q ⊢
        split at q
        · exact ih (i + 1) _ _ hd' hlt q
        · exact q.elim
      · exact ih (i + 1) _ _ hd' hlt q
  intro st acc hp
  exact go xs 0 st acc rfl (Nat.zero_le _) hp
theorem loopF_inv {tb : Tb} (ht : tb.Mono) {t : IE} {b : IS} {K : KS} (P : Nat → En → Sto → Prop) {xs : List D}
    (step : ∀ i x env st, xs[i]? = some x → P i env st → (sem tb t).a (.d x) env fun env' => semS tb b env' st { nx := P (i + 1), rt := K.rt, bk := K.nx, ct := P (i + 1) })
    (done : ∀ env st, P xs.length env st → K.nx env st) : ∀ {env : En} {st : Sto}, P 0 env st → loopF (sem tb t).a (semS tb b) xs env st K := by
  have go : ∀ (ys : List D) (i : Nat) (env : En) (st : Sto), xs.drop i = ys → i ≤ xs.length → P i env st → loopF (sem tb t).a (semS tb b) ys env st K := by
    intro ys
    induction ys with
    | nil =>
      intro i env st hd hi hp
      have : i = xs.length := by
        have := congrArg List.length hd
        rw [List.length_drop] at this
        simp at this
        omega
      subst this
      exact done env st hp
    | cons y ys ih =>
      intro i env st hd hi hp
      have hlt : i < xs.length := by
        have := congrArg List.length hd
        rw [List.length_drop] at this
        simp at this
        omega
      have hx : xs[i]? = some y := by
        have := congrArg (fun l => l[0]?) hd
        simp only [List.getElem?_drop] at this
        simpa using this
      have hd' : xs.drop (i + 1) = ys := by
        have := congrArg List.tail hd
        simpa using this
      refine (sem_mono ht t).a _ _ _ _ (fun env' q => semS_mono ht b _ _ { nx := P (i + 1), rt := K.rt, bk := K.nx, ct := P (i + 1) } _ ⟨fun e s q => ih (i + 1) e s hd' hlt q, fun _ _ z => z, fun _ _ z => z, fun e s q => ih (i + 1) e s hd' hlt q⟩ q) (step i y env st hx hp)
  intro env st hp
  exact go xs 0 env st rfl (Nat.zero_le _) hp
theorem cut_len {α : Type} (xs : List α) (lo hi : Option Int) : (cutD xs lo hi).length ≤ xs.length := by
  unfold cutD
  rw [List.length_take, List.length_drop]
  omega
theorem cut_map {α β : Type} (f : α → β) (xs : List α) (lo hi : Option Int) : cutD (xs.map f) lo hi = (cutD xs lo hi).map f := by
  unfold cutD
  rw [List.length_map, List.map_take, List.map_drop]
theorem cut_le (n : Nat) {α : Type} (xs : List α) : (cutD xs none (some (n : Int))).length ≤ n := by
  unfold cutD
  rw [List.length_take, List.length_drop]
  simp only [HT.sIx]
  split <;> omega
end VI

/-! PL3: nearest integers, sums of fractions. -/
namespace VI
open PySem
def ways5 : List Str := ["even", "away", "up", "down", "zero"]
/-- the integer to which n/d is rounded: q its floor, r what is left -/
def near (way : Str) (n d q r : Int) : Int :=
  if r = 0 then q else if way = "down" then q else if way = "up" then q + 1 else if way = "zero" then (if n > 0 then q else q + 1)
  else if 2 * r < d then q else if d < 2 * r then q + 1 else if way = "even" then q + q % 2 else (if n > 0 then q + 1 else q)
theorem fdiv_parts {n d : Int} (hd : 0 < d) : ∃ q r : Int, n.fdiv d = q ∧ n = q * d + r ∧ 0 ≤ r ∧ r < d := by
  refine ⟨n.fdiv d, n - n.fdiv d * d, rfl, by omega, ?_, ?_⟩
  · rw [Int.fdiv_eq_ediv_of_nonneg _ (by omega)]
    have := Int.ediv_mul_le n (b := d) (by omega)
    omega
  · rw [Int.fdiv_eq_ediv_of_nonneg _ (by omega)]
    have := Int.lt_ediv_add_one_mul_self n hd
    rw [Int.add_mul] at this
    omega
theorem fdiv_of {n d q r : Int} (hd : 0 < d) (e : n = q * d + r) (h0 : 0 ≤ r) (h1 : r < d) : n.fdiv d = q := by
  rw [Int.fdiv_eq_ediv_of_nonneg _ (by omega)]
  rw [e, Int.add_comm, Int.add_mul_ediv_right _ _ (by omega), Int.ediv_eq_zero_of_lt h0 h1]
  omega
/-- the ceiling -/
theorem ceil_parts {n d q r : Int} (hd : 0 < d) (e : n = q * d + r) (h0 : 0 ≤ r) (h1 : r < d) : -((-n).fdiv d) = if r = 0 then q else q + 1 := by
  by_cases hr : r = 0
  · rw [if_pos hr, fdiv_of (n := -n) (q := -q) (r := 0) hd (by subst hr; grind) (by omega) hd]
    omega
  · rw [if_neg hr, fdiv_of (n := -n) (q := -q - 1) (r := d - r) hd (by grind) (by omega) (by omega)]
    omega
theorem sign_parts {n d q r : Int} (hd : 0 < d) (e : n = q * d + r) (h0 : 0 ≤ r) (h1 : r < d) : (0 ≤ q → 0 ≤ n) ∧ (q < 0 → n < 0) := by
  refine ⟨fun h => ?_, fun h => ?_⟩
  · have := Int.mul_nonneg h (by omega : 0 ≤ d)
    omega
  · have : q * d ≤ -1 * d := Int.mul_le_mul_of_nonneg_right (by omega) (by omega)
    omega
def addP (p q : P2) : P2 := nrm (p.1 * q.2 + q.1 * p.2) (p.2 * q.2)
/-- a fraction of so many bits -/
structure Fra (k : Nat) (p : P2) : Prop where
  can : Can p
  b1 : Bd k p.1
  b2 : Bd k p.2
theorem Fra.up {k l : Nat} {p : P2} (h : Fra k p) (e : k ≤ l) : Fra l p := ⟨h.can, h.b1.up e, h.b2.up e⟩
theorem Fra.ne {k : Nat} {p : P2} (h : Fra k p) : p.2 ≠ 0 := by have := h.can.pos; omega
theorem Fra.nrm {k : Nat} {n d : Int} (h0 : d ≠ 0) (h1 : Bd k n) (h2 : Bd k d) : Fra k (nrm n d) := ⟨nrm_can h0, h1.nrm1, h2.nrm2⟩
theorem mul_ne {a b : Int} (h : a ≠ 0) (h' : b ≠ 0) : a * b ≠ 0 := Int.mul_ne_zero h h'
theorem Fra.add {k l : Nat} {p q : P2} (h : Fra k p) (h' : Fra l q) : Fra (k + l + 1) (addP p q) :=
  Fra.nrm (mul_ne h.ne h'.ne) (((h.b1.mul h'.b2).add (h'.b1.mul h.b2)).up (by omega)) ((h.b2.mul h'.b2).up (by omega))
theorem Fra.fit {k : Nat} {p : P2} (h : Fra k p) (e : k ≤ 14000) : Fit 1 8628 (dF p) :=
  (Fit.tup (all_cons (Fit.bd h.b1 e) (all_cons (Fit.bd h.b2 e) all_nil))).up (by omega) (by simp)
theorem fr01 : Fra 1 (0, 1) := ⟨⟨by decide, by decide⟩, by unfold Bd; decide, by unfold Bd; decide⟩
/-- a sum, from (0, 1) on -/
def totP (l : List P2) : P2 := l.foldl addP (0, 1)
theorem Fra.tot {k : Nat} : ∀ (l : List P2) (p : P2) (j : Nat), Fra j p → (∀ q ∈ l, Fra k q) → Fra (j + (k + 1) * l.length) (l.foldl addP p)
  | [], p, j, h, _ => h.up (by omega)
  | q :: l, p, j, h, hl => by
    have := Fra.tot l (addP p q) (j + k + 1) (h.add (hl q List.mem_cons_self)) fun x hx => hl x (List.mem_cons_of_mem _ hx)
    refine this.up ?_
    rw [List.length_cons, Nat.mul_add]
    omega
/-! ### the worth -/
def wo (p : P2) : Rat := (p.1 : Rat) / (p.2 : Rat)
theorem wo_eq {p q : P2} (hp : Can p) (hq : Can q) (e : wo p = wo q) : p = q := by
  refine can_uniq hp hq ?_
  have h1 : (p.2 : Rat) ≠ 0 := fun h => by
    have := hp.pos
    have h' : p.2 = 0 := by exact_mod_cast h
    omega
  have h2 : (q.2 : Rat) ≠ 0 := fun h => by
    have := hq.pos
    have h' : q.2 = 0 := by exact_mod_cast h
    omega
  unfold wo at e
  have : (p.1 : Rat) * q.2 = q.1 * p.2 := by grind
  exact_mod_cast this
theorem wo_nrm {n d : Int} (hd : d ≠ 0) : wo (nrm n d) = (n : Rat) / (d : Rat) := by
  have h := nrm_eq (n := n) hd
  have h1 : ((nrm n d).2 : Rat) ≠ 0 := fun h => by
    have := (nrm_can (n := n) hd).pos
    have h' : (nrm n d).2 = 0 := by exact_mod_cast h
    omega
  have h2 : (d : Rat) ≠ 0 := fun h => hd (by exact_mod_cast h)
  have h3 : ((nrm n d).1 : Rat) * d = n * (nrm n d).2 := by exact_mod_cast h
  unfold wo
  grind
theorem wo_add {p q : P2} (hp : Can p) (hq : Can q) : wo (addP p q) = wo p + wo q := by
  have a := hp.pos
  have b := hq.pos
  unfold addP
  rw [wo_nrm (mul_ne (by omega) (by omega))]
  have h1 : (p.2 : Rat) ≠ 0 := fun h => by
    have h' : p.2 = 0 := by exact_mod_cast h
    omega
  have h2 : (q.2 : Rat) ≠ 0 := fun h => by
    have h' : q.2 = 0 := by exact_mod_cast h
    omega
  unfold wo
  push_cast
  grind
def subP (p q : P2) : P2 := nrm (p.1 * q.2 - q.1 * p.2) (p.2 * q.2)
def mulP (p q : P2) : P2 := nrm (p.1 * q.1) (p.2 * q.2)
def divP (p q : P2) : P2 := nrm (p.1 * q.2) (p.2 * q.1)
theorem nrm_ne {n d : Int} (h : d ≠ 0) : (nrm n d).2 ≠ 0 := by have := (nrm_can (n := n) h).pos; omega
theorem rat_ne {d : Int} (h : d ≠ 0) : (d : Rat) ≠ 0 := fun e => h (by exact_mod_cast e)
theorem wo_sub {p q : P2} (hp : Can p) (hq : Can q) : wo (subP p q) = wo p - wo q := by
  have a := hp.pos
  have b := hq.pos
  unfold subP
  rw [wo_nrm (mul_ne (by omega) (by omega))]
  have h1 := rat_ne (show p.2 ≠ 0 by omega)
  have h2 := rat_ne (show q.2 ≠ 0 by omega)
  unfold wo
  push_cast
  grind
theorem wo_mul {p q : P2} (hp : Can p) (hq : Can q) : wo (mulP p q) = wo p * wo q := by
  have a := hp.pos
  have b := hq.pos
  unfold mulP
  rw [wo_nrm (mul_ne (by omega) (by omega))]
  have h1 := rat_ne (show p.2 ≠ 0 by omega)
  have h2 := rat_ne (show q.2 ≠ 0 by omega)
  unfold wo
  push_cast
  grind
theorem wo_div {p q : P2} (hp : Can p) (hq : Can q) (h0 : q.1 ≠ 0) : wo (divP p q) = wo p / wo q := by
  have a := hp.pos
  have b := hq.pos
  unfold divP
  rw [wo_nrm (mul_ne (by omega) h0)]
  have h1 := rat_ne (show p.2 ≠ 0 by omega)
  have h2 := rat_ne (show q.2 ≠ 0 by omega)
  have h3 := rat_ne h0
  unfold wo
  push_cast
  grind
theorem wo_ne {q : P2} (hq : Can q) (h0 : q.1 ≠ 0) : wo q ≠ 0 := by
  have b := hq.pos
  have h2 := rat_ne (show q.2 ≠ 0 by omega)
  have h3 := rat_ne h0
  unfold wo
  grind
theorem can_add {p q : P2} (hp : Can p) (hq : Can q) : Can (addP p q) := nrm_can (mul_ne (by have := hp.pos; omega) (by have := hq.pos; omega))
theorem can_sub {p q : P2} (hp : Can p) (hq : Can q) : Can (subP p q) := nrm_can (mul_ne (by have := hp.pos; omega) (by have := hq.pos; omega))
theorem can_mul {p q : P2} (hp : Can p) (hq : Can q) : Can (mulP p q) := nrm_can (mul_ne (by have := hp.pos; omega) (by have := hq.pos; omega))
theorem can_div {p q : P2} (hp : Can p) (h0 : q.1 ≠ 0) : Can (divP p q) := nrm_can (mul_ne (by have := hp.pos; omega) h0)
theorem sub_add {p q : P2} (hp : Can p) (hq : Can q) : subP (addP p q) q = p := by
  refine wo_eq (can_sub (can_add hp hq) hq) hp ?_
  rw [wo_sub (can_add hp hq) hq, wo_add hp hq]
  grind
theorem mul_div {p q : P2} (hp : Can p) (hq : Can q) (h0 : q.1 ≠ 0) : mulP (divP p q) q = p := by
  refine wo_eq (can_mul (can_div hp h0) hq) hp ?_
  rw [wo_mul (can_div hp h0) hq, wo_div hp hq h0]
  have := wo_ne hq h0
  grind
/-- the sign of a difference -/
theorem sgn_sub {p q : P2} (hp : Can p) (hq : Can q) : (0 < (subP p q).1 ↔ q.1 * p.2 < p.1 * q.2) ∧ ((subP p q).1 < 0 ↔ p.1 * q.2 < q.1 * p.2) := by
  have a := hp.pos
  have b := hq.pos
  have hd : 0 < p.2 * q.2 := Int.mul_pos a b
  have e := nrm_eq (n := p.1 * q.2 - q.1 * p.2) (show p.2 * q.2 ≠ 0 by omega)
  have hs := (can_sub hp hq).pos
  unfold subP at *
  generalize nrm (p.1 * q.2 - q.1 * p.2) (p.2 * q.2) = s at *
  generalize p.2 * q.2 = d at *
  generalize hx : p.1 * q.2 - q.1 * p.2 = x at *
  have k1 : 0 < s.1 ↔ 0 < x := by
    constructor
    · intro h
      have : 0 < s.1 * d := Int.mul_pos h hd
      rw [e] at this
      exact Int.pos_of_mul_pos_left (b := s.2) this hs
    · intro h
      have : 0 < x * s.2 := Int.mul_pos h hs
      rw [← e] at this
      exact Int.pos_of_mul_pos_left (b := d) this hd
  have k2 : s.1 < 0 ↔ x < 0 := by
    constructor
    · intro h
      have : 0 < (-s.1) * d := Int.mul_pos (by omega) hd
      rw [Int.neg_mul, e, ← Int.neg_mul] at this
      have := Int.pos_of_mul_pos_left (b := s.2) this hs
      omega
    · intro h
      have : 0 < (-x) * s.2 := Int.mul_pos (by omega) hs
      rw [Int.neg_mul, ← e, ← Int.neg_mul] at this
      have := Int.pos_of_mul_pos_left (b := d) this hd
      omega
  rw [k1, k2]
  omega
theorem nrm_scale {p : P2} (hp : Can p) {k : Int} (hk : k ≠ 0) : nrm (p.1 * k) (p.2 * k) = p := by
  have a := hp.pos
  exact nrm_of hp (mul_ne (by omega) hk) (by grind)
theorem wo01 : wo (0, 1) = 0 := by
  unfold wo
  simp
  grind
theorem can01 : Can (0, 1) := ⟨by decide, by decide⟩
theorem can_tot : ∀ (l : List P2) (p : P2), Can p → (∀ q ∈ l, Can q) → Can (l.foldl addP p)
  | [], _, h, _ => h
  | q :: l, p, h, hl => can_tot l _ (can_add h (hl q List.mem_cons_self)) fun x hx => hl x (List.mem_cons_of_mem _ hx)
theorem wo_tot : ∀ (l : List P2) (p : P2), Can p → (∀ q ∈ l, Can q) → wo (l.foldl addP p) = wo p + (l.foldr (fun q s => wo q + s) 0)
  | [], p, _, _ => by
    show wo p = wo p + 0
    grind
  | q :: l, p, h, hl => by
    show wo (l.foldl addP (addP p q)) = wo p + (wo q + l.foldr (fun q s => wo q + s) 0)
    rw [wo_tot l _ (can_add h (hl q List.mem_cons_self)) fun x hx => hl x (List.mem_cons_of_mem _ hx), wo_add h (hl q List.mem_cons_self)]
    grind
theorem tot_one {p : P2} (hp : Can p) : totP [p] = p := by
  refine wo_eq (can_add can01 hp) hp ?_
  show wo (addP (0, 1) p) = _
  rw [wo_add can01 hp, wo01]
  grind
theorem tot_four {l : List P2} (hl : ∀ q ∈ l, Can q) : totP (l ++ (l ++ (l ++ l))) = mulP (totP l) (4, 1) := by
  have c4 : Can (4, 1) := ⟨by decide, by decide⟩
  have h4 : ∀ q ∈ l ++ (l ++ (l ++ l)), Can q := fun q hq => by
    simp only [List.mem_append, or_self] at hq
    exact hl q hq
  refine wo_eq (can_tot _ _ can01 h4) (can_mul (can_tot _ _ can01 hl) c4) ?_
  unfold totP
  rw [wo_mul (can_tot _ _ can01 hl) c4, wo_tot _ _ can01 h4, wo_tot _ _ can01 hl, wo01]
  have e4 : wo (4, 1) = 4 := by
    unfold wo
    grind
  have ap : ∀ (a b : List P2), (a ++ b).foldr (fun q s => wo q + s) (0 : Rat) = a.foldr (fun q s => wo q + s) 0 + b.foldr (fun q s => wo q + s) 0 := by
    intro a b
    induction a with
    | nil =>
      show _ = (0 : Rat) + _
      rw [List.nil_append]
      grind
    | cons x a ih =>
      rw [List.cons_append, List.foldr_cons, List.foldr_cons, ih]
      grind
  rw [ap, ap, ap, e4]
  grind
theorem nrm_inv {x : Int} (hx : 0 < x) : nrm 1 x = (1, x) := nrm_of ⟨hx, Int.gcd_one_left ..⟩ (by omega) (by simp)
theorem nrm_11 {x y : Int} (h : x = y) (hx : x ≠ 0) : nrm x y = (1, 1) := nrm_of ⟨by decide, by decide⟩ (by omega) (by show 1 * y = x * 1; omega)
theorem Fit.pair {k l : Nat} {a b : Int} (h : Bd k a) (h' : Bd l b) (e : k ≤ 14000) (e' : l ≤ 14000) : Fit 2 9000 (.tuple [.int a, .int b]) :=
  (Fit.tup (all_cons (Fit.bd h e) (all_cons (Fit.bd h' e') all_nil))).up (by omega) (by simp)
theorem Fit.nrm {k l : Nat} {a b : Int} (h : Bd k a) (h' : Bd l b) (e : k ≤ 14000) (e' : l ≤ 14000) : Fit 2 9000 (dF (nrm a b)) := Fit.pair h.nrm1 h'.nrm2 e e'
theorem Fit.one {k : Nat} {a : Int} (h : Bd k a) (e : k ≤ 14000) : Fit 2 9000 (.int a) := (Fit.bd h e).up (by omega) (by omega)
theorem Fit.cmp {a b : Prop} [Decidable a] [Decidable b] : Fit 2 9000 (.int ((if a then 1 else 0) - (if b then 1 else 0))) :=
  Fit.one (k := 2) (by unfold Bd; split <;> split <;> decide) (by omega)
end VI

namespace VI
open PySem PySem.Spec PyProof.Rows
local macro_rules | `(tactic| walk_at "ne") => `(tactic| with_reducible first | assumption | (apply mul_ne; walk_at "ne"; walk_at "ne") | (apply nrm_ne; walk_at "ne") | omega)
local macro_rules | `(tactic| walk_at "nb") => `(tactic| (refine And.intro ?_ ?_; walk_at "ne"; (apply Bd.up; walk_at "bd"; omega)))
local macro_rules | `(tactic| walk_at "fe") => `(tactic| with_reducible first | assumption | exact Fit.cmp | (apply Fit.pair; walk_at "bd"; walk_at "bd"; omega; omega) | (apply Fit.nrm; walk_at "bd"; walk_at "bd"; omega; omega) | (apply Fit.one; walk_at "bd"; omega))
local macro_rules | `(tactic| walk_at "all") => `(tactic| first | exact all_nil | (refine all_cons ?_ ?_; walk_at "fe"; walk_at "all"))
local macro_rules | `(tactic| walk_at "rep") => `(tactic| first | (refine Fit.rep (Fit.lst (k := 2) (w := 9000) ?_) ?_ ?_; walk_at "all"; omega; (simp only [List.length_cons, List.length_nil]; omega)) | (refine Fit.rep (k := 2) (w := 9000) ?_ ?_ ?_; walk_at "fe"; omega; omega))
local macro_rules | `(tactic| walk_at "vc") => `(tactic| first | exact Or.inl rfl | assumption | omega | walk_at "mo" | walk_at "dv" | walk_at "nb" | (simp only [List.length_cons, List.length_nil, List.length_append]; omega) | trivial | (with_reducible decide))
local macro_rules | `(tactic| walk_at "bd") => `(tactic| with_reducible first | assumption | (apply Bd.mul; walk_at "bd"; walk_at "bd") | (apply Bd.add; walk_at "bd"; walk_at "bd") | (apply Bd.sub; walk_at "bd"; walk_at "bd") | (apply Bd.neg; walk_at "bd") | (apply Bd.emod; walk_at "bd"; first | assumption | omega) | (apply Bd.fdiv; walk_at "bd") | (apply Bd.abs; walk_at "bd") | (apply Bd.nrm1; walk_at "bd") | (apply Bd.nrm2; walk_at "bd") | (refine Bd.lit64 (OfNat.ofNat _) ?_; omega))
local macro_rules | `(tactic| walk_at "mo") => `(tactic| (apply Bd.mulOk; walk_at "bd"; walk_at "bd"; omega))
local macro_rules | `(tactic| walk_at "dv") => `(tactic| (apply Bd.divOk; walk_at "bd"; (first | assumption | omega); omega))
local macro_rules | `(tactic| walk_at "w") => `(tactic| conv => whnf)
local macro_rules | `(tactic| walk_at "vi") => `(tactic|
  (conv => whnf) <;> first
  | (refine ⟨fun (h : _ = true) => ?_, fun (h : _ = false) => ?_⟩ <;> (try simp only [not_true_eq_false, List.any_cons, List.any_nil, Bool.or_eq_true, Bool.or_eq_false_iff, Bool.or_false, eqv_int, eqv_str, decide_eq_true_eq, decide_eq_false_iff_not, Int.not_lt, Int.not_le, Bool.not_eq_true', Bool.not_eq_false', Bool.true_eq_false, Bool.false_eq_true, bne_iff_ne, bne_eq_false_iff_eq, ne_eq, Classical.not_not] at h) <;> walk_at "vi")
  | (refine And.intro ?obl ?go; (case' obl => try walk_at "vc"); (case' go => walk_at "vi"))
  | skip)
local macro_rules | `(tactic| walk_at "mono") => `(tactic| (intro vs g Q Q' h q; revert q; split <;> (intro q; first | exact ⟨q.1, h _ _ q.2⟩ | exact h _ _ q | exact q.elim)))
/-! whole_power -/
def b_whole_power : IS := .seq (.asg (.var 2) (.cst (.int 1))) (.seq (.whl (.cmp .gt (.var 1) (.cst (.int 0))) (.seq (.ifs (.cmp .eq (.bin .mod (.var 1) (.cst (.int 2))) (.cst (.int 1))) (.seq (.asg (.var 2) (.bin .mul (.var 2) (.var 0))) .skip) (.skip)) (.seq (.asg (.tup (.cons (.var 0) (.cons (.var 1) .nil))) (.tup (.cons (.bin .mul (.var 0) (.var 0)) (.cons (.bin .fdiv (.var 1) (.cst (.int 2))) .nil)))) .skip))) (.seq (.ret (.var 2)) .skip))
def tb_whole_power : Tb := ⟨[], []⟩
theorem tbm_whole_power : tb_whole_power.Mono := Tb.mono_of fun q hq => by
  simp only [tb_whole_power, List.mem_cons, List.not_mem_nil, or_false] at hq
def sp_whole_power : Sem := fun vs g Q => match vs with
  | [.d (.int b), .d (.int e)] => (∃ k, Bd k b ∧ 0 ≤ e ∧ k * (4 * e.toNat + 4) ≤ 900000) ∧ Q (.d (.int (b ^ e.toNat))) g
  | _ => False
theorem mono_whole_power : SemMono sp_whole_power := by
  unfold sp_whole_power
  walk_at "mono"
theorem pure_whole_power : ∀ vs g Q, sp_whole_power vs g Q → semF tb_whole_power 3 b_whole_power vs g Q := by
  intro vs g Q h
  unfold sp_whole_power at h
  split at h
  · rename_i b e
    obtain ⟨⟨k, hk, he, hb⟩, h⟩ := h
    walk_at "vi"
    refine ⟨fun m env st => ∃ (p r e' : Nat), env = [some (.d (.int (b ^ p))), some (.d (.int e')), some (.d (.int (b ^ r)))] ∧ st = ⟨g, []⟩ ∧ e' = m ∧ r + p * e' = e.toNat ∧ 1 ≤ p, ⟨_, 1, 0, e.toNat, ?_, rfl, rfl, by omega, by omega⟩, ?_⟩
    · simp [put, Int.toNat_of_nonneg he, Int.pow_succ]
    rintro m _ _ ⟨p, r, e', rfl, rfl, rfl, hs, hp⟩
    have ok : 0 < e' → ∀ x y, x ≤ e.toNat → y ≤ e.toNat → MulOk (b ^ x) (b ^ y) := fun h0 x y hx hy => by
      have h1 := Nat.mul_le_mul_left k hx
      have h2 := Nat.mul_le_mul_left k hy
      rw [Nat.mul_add, ← Nat.mul_assoc, Nat.mul_comm k 4, Nat.mul_assoc] at hb
      exact (hk.pow x).mulOk (hk.pow y) (by omega)
    have hpe : 0 < e' → p ≤ p * e' := fun h0 => Nat.le_mul_of_pos_right p h0
    walk_at "vi"
    · rename_i h0 h1
      obtain ⟨q, rfl⟩ : ∃ q, e' = 2 * q + 1 := ⟨e' / 2, by omega⟩
      refine ⟨q, by omega, 2 * p, r + p, q, ?_, rfl, rfl, by rw [← hs]; grind, by omega⟩
      have e1 : (2 * q + 1 : Nat) / 2 = q := by omega
      simp only [put]
      rw [Int.fdiv_eq_ediv_of_nonneg _ (by decide), show ((2 * q + 1 : Nat) : Int) / 2 = (q : Int) by omega, ← Int.pow_add, ← Int.pow_add, Nat.two_mul]
    · exact ok (by omega) _ _ (by have := hpe (by omega); omega) (by have := hpe (by omega); omega)
    · exact ok (by omega) _ _ (by omega) (by have := hpe (by omega); omega)
    · rename_i h0 h1
      obtain ⟨q, rfl⟩ : ∃ q, e' = 2 * q := ⟨e' / 2, by omega⟩
      refine ⟨q, by omega, 2 * p, r, q, ?_, rfl, rfl, by rw [← hs]; grind, by omega⟩
      simp only [put]
      rw [Int.fdiv_eq_ediv_of_nonneg _ (by decide), show ((2 * q : Nat) : Int) / 2 = (q : Int) by omega, ← Int.pow_add, Nat.two_mul]
    · exact ok (by omega) _ _ (by have := hpe (by omega); omega) (by have := hpe (by omega); omega)
    · rename_i h0
      have e0 : e' = 0 := by omega
      subst e0
      have hr : r = e.toNat := by omega
      rw [hr]
      exact h
  · exact h.elim
/-! reduced -/
def b_reduced : IS := .seq (.asg (.var 2) (.ife (.cmp .gt (.var 1) (.cst (.int 0))) (.blt .gcd 0 (.cons (.var 0) (.cons (.var 1) .nil))) (.neg (.blt .gcd 0 (.cons (.var 0) (.cons (.var 1) .nil)))))) (.seq (.ret (.tup (.cons (.bin .fdiv (.var 0) (.var 2)) (.cons (.bin .fdiv (.var 1) (.var 2)) .nil)))) .skip)
def tb_reduced : Tb := ⟨[], []⟩
theorem tbm_reduced : tb_reduced.Mono := Tb.mono_of fun q hq => by
  simp only [tb_reduced, List.mem_cons, List.not_mem_nil, or_false] at hq
def sp_reduced : Sem := fun vs g Q => match vs with
  | [.d (.int n), .d (.int d)] => (d ≠ 0 ∧ Bd 8000 d) ∧ Q (.d (dF (nrm n d))) g
  | _ => False
theorem mono_reduced : SemMono sp_reduced := by
  unfold sp_reduced
  walk_at "mono"
theorem pure_reduced : ∀ vs g Q, sp_reduced vs g Q → semF tb_reduced 3 b_reduced vs g Q := by
  intro vs g Q h
  unfold sp_reduced at h
  split at h
  · rename_i n d
    obtain ⟨⟨h0, hb⟩, h⟩ := h
    have hg : (Int.gcd n d : Int) ≠ 0 := fun e => h0 (Int.gcd_eq_zero_iff.mp (by omega : Int.gcd n d = 0)).2
    have d1 : ((Int.gcd n d : Int) ≠ 0 ∧ (Int.gcd n d : Int).natAbs.log2 < 9000) := (hb.gcd (x := n) h0).divOk hg (by decide)
    have d2 : (-(Int.gcd n d : Int) ≠ 0 ∧ (-(Int.gcd n d : Int)).natAbs.log2 < 9000) := (hb.gcd (x := n) h0).neg.divOk (by omega) (by decide)
    unfold nrm dF at h
    walk_at "vi"
    · rename_i hp
      rw [if_pos hp] at h
      exact h
    · rename_i hp
      rw [if_neg (by omega)] at h
      exact h
  · exact h.elim
/-! added -/
def b_added : IS := .seq (.ret (.call 0 (.cons (.bin .add (.bin .mul (.ixc (.var 0) 0) (.ixc (.var 1) 1)) (.bin .mul (.ixc (.var 1) 0) (.ixc (.var 0) 1))) (.cons (.bin .mul (.ixc (.var 0) 1) (.ixc (.var 1) 1)) .nil)))) .skip
def tb_added : Tb := ⟨[((Str.ofString "reduced"), 2, sp_reduced)], []⟩
theorem tbm_added : tb_added.Mono := Tb.mono_of fun q hq => by
  simp only [tb_added, List.mem_cons, List.not_mem_nil, or_false] at hq
  subst hq
  exact mono_reduced
def sp_added : Sem := semF tb_added 2 b_added
theorem mono_added : SemMono sp_added := semF_mono tbm_added _ _
theorem pure_added : ∀ vs g Q, sp_added vs g Q → semF tb_added 2 b_added vs g Q := fun _ _ _ q => q
/-! lessened -/
def b_lessened : IS := .seq (.ret (.call 0 (.cons (.bin .sub (.bin .mul (.ixc (.var 0) 0) (.ixc (.var 1) 1)) (.bin .mul (.ixc (.var 1) 0) (.ixc (.var 0) 1))) (.cons (.bin .mul (.ixc (.var 0) 1) (.ixc (.var 1) 1)) .nil)))) .skip
def tb_lessened : Tb := ⟨[((Str.ofString "reduced"), 2, sp_reduced)], []⟩
theorem tbm_lessened : tb_lessened.Mono := Tb.mono_of fun q hq => by
  simp only [tb_lessened, List.mem_cons, List.not_mem_nil, or_false] at hq
  subst hq
  exact mono_reduced
def sp_lessened : Sem := semF tb_lessened 2 b_lessened
theorem mono_lessened : SemMono sp_lessened := semF_mono tbm_lessened _ _
theorem pure_lessened : ∀ vs g Q, sp_lessened vs g Q → semF tb_lessened 2 b_lessened vs g Q := fun _ _ _ q => q
/-! times -/
def b_times : IS := .seq (.ret (.call 0 (.cons (.bin .mul (.ixc (.var 0) 0) (.ixc (.var 1) 0)) (.cons (.bin .mul (.ixc (.var 0) 1) (.ixc (.var 1) 1)) .nil)))) .skip
def tb_times : Tb := ⟨[((Str.ofString "reduced"), 2, sp_reduced)], []⟩
theorem tbm_times : tb_times.Mono := Tb.mono_of fun q hq => by
  simp only [tb_times, List.mem_cons, List.not_mem_nil, or_false] at hq
  subst hq
  exact mono_reduced
def sp_times : Sem := semF tb_times 2 b_times
theorem mono_times : SemMono sp_times := semF_mono tbm_times _ _
theorem pure_times : ∀ vs g Q, sp_times vs g Q → semF tb_times 2 b_times vs g Q := fun _ _ _ q => q
/-! over -/
def b_over : IS := .seq (.ret (.call 0 (.cons (.bin .mul (.ixc (.var 0) 0) (.ixc (.var 1) 1)) (.cons (.bin .mul (.ixc (.var 0) 1) (.ixc (.var 1) 0)) .nil)))) .skip
def tb_over : Tb := ⟨[((Str.ofString "reduced"), 2, sp_reduced)], []⟩
theorem tbm_over : tb_over.Mono := Tb.mono_of fun q hq => by
  simp only [tb_over, List.mem_cons, List.not_mem_nil, or_false] at hq
  subst hq
  exact mono_reduced
def sp_over : Sem := semF tb_over 2 b_over
theorem mono_over : SemMono sp_over := semF_mono tbm_over _ _
theorem pure_over : ∀ vs g Q, sp_over vs g Q → semF tb_over 2 b_over vs g Q := fun _ _ _ q => q
/-! total_of -/
def b_total_of : IS := .seq (.asg (.var 1) (.tup (.cons (.cst (.int 0)) (.cons (.cst (.int 1)) .nil)))) (.seq (.fr (.var 2) (.var 0) (.seq (.asg (.var 1) (.call 0 (.cons (.var 1) (.cons (.var 2) .nil)))) .skip)) (.seq (.ret (.var 1)) .skip))
def tb_total_of : Tb := ⟨[((Str.ofString "added"), 2, sp_added)], []⟩
theorem tbm_total_of : tb_total_of.Mono := Tb.mono_of fun q hq => by
  simp only [tb_total_of, List.mem_cons, List.not_mem_nil, or_false] at hq
  subst hq
  exact mono_added
def sp_total_of : Sem := fun vs g Q => match vs with
  | [.d (.list xs)] => ∃ l : List P2, (xs = l.map dF ∧ (∀ p ∈ l, Fra 210 p) ∧ l.length ≤ 20) ∧ Q (.d (dF (totP l))) g
  | [.d (.tuple xs)] => ∃ l : List P2, (xs = l.map dF ∧ (∀ p ∈ l, Fra 210 p) ∧ l.length ≤ 20) ∧ Q (.d (dF (totP l))) g
  | _ => False
theorem mono_total_of : SemMono sp_total_of := by
  unfold sp_total_of
  intro vs g Q Q' h q
  revert q
  split
  · rintro ⟨l, a, b⟩
    exact ⟨l, a, h _ _ b⟩
  · rintro ⟨l, a, b⟩
    exact ⟨l, a, h _ _ b⟩
  · exact fun q => q.elim
theorem pure_total_of : ∀ vs g Q, sp_total_of vs g Q → semF tb_total_of 3 b_total_of vs g Q := by
  intro vs g Q h
  have main : ∀ (l : List P2) (x : D), (∀ p ∈ l, Fra 210 p) → l.length ≤ 20 → Q (.d (dF (totP l))) g →
      loopF (sem tb_total_of (.var 2)).a (semS tb_total_of (.seq (.asg (.var 1) (.call 0 (.cons (.var 1) (.cons (.var 2) .nil)))) .skip)) (l.map dF) [some (.d x), some (.d (.tuple [.int 0, .int 1])), none] ⟨g, []⟩
        { nx := fun env st => semS tb_total_of (.seq (.ret (.var 1)) .skip) env st { nx := fun _ st => Q (.d .none) st.g, rt := fun ev st => outE ev st fun v => Q v st.g, bk := fun _ _ => False, ct := fun _ _ => False }, rt := fun ev st => outE ev st fun v => Q v st.g, bk := fun _ _ => False, ct := fun _ _ => False } := by
    intro l x hl hlen h
    refine loopF_inv tbm_total_of (fun i env st => ∃ (z : Option EV), env = [some (.d x), some (.d (dF (totP (l.take i)))), z] ∧ st = ⟨g, []⟩) ?_ ?_ ⟨none, rfl, rfl⟩
    · rintro i y _ _ hy ⟨z, rfl, rfl⟩
      rw [List.getElem?_map] at hy
      cases hq : l[i]? with
      | none => rw [hq] at hy; cases hy
      | some q =>
        rw [hq] at hy
        cases hy
        have hi : i < l.length := (List.getElem?_eq_some_iff.mp hq).1
        have fq := hl q (List.mem_of_getElem? hq)
        have ft : Fra (1 + 211 * i) (totP (l.take i)) := (Fra.tot (l.take i) (0, 1) 1 fr01 fun p hp => hl p (List.mem_of_mem_take hp)).up (by rw [List.length_take]; omega)
        have ft := ft.up (l := 5000) (by omega)
        have b1 := ft.b1
        have b2 := ft.b2
        have c1 := fq.b1
        have c2 := fq.b2
        have e : totP (l.take (i + 1)) = addP (totP (l.take i)) q := by
          unfold totP
          rw [List.take_add_one, hq, List.foldl_append]
          rfl
        generalize totP (l.take i) = t at *
        have ne : t.2 * q.2 ≠ 0 ∧ Bd 8000 (t.2 * q.2) := ⟨mul_ne ft.ne fq.ne, (b2.mul c2).up (by decide)⟩
        walk_at "vi"
        refine ⟨some (.d (dF q)), ?_, rfl⟩
        rw [e]
        rfl
    · rintro _ _ ⟨z, rfl, rfl⟩
      rw [List.length_map, List.take_length]
      exact h
  unfold sp_total_of at h
  split at h
  · obtain ⟨l, ⟨rfl, hl, hlen⟩, h⟩ := h
    walk_at "vi"
    exact main l _ hl hlen h
  · obtain ⟨l, ⟨rfl, hl, hlen⟩, h⟩ := h
    walk_at "vi"
    exact main l _ hl hlen h
  · exact h.elim
/-! size_of -/
def b_size_of : IS := .seq (.ret (.tup (.cons (.blt .abs 0 (.cons (.ixc (.var 0) 0) .nil)) (.cons (.ixc (.var 0) 1) .nil)))) .skip
def tb_size_of : Tb := ⟨[], []⟩
theorem tbm_size_of : tb_size_of.Mono := Tb.mono_of fun q hq => by
  simp only [tb_size_of, List.mem_cons, List.not_mem_nil, or_false] at hq
def sp_size_of : Sem := semF tb_size_of 1 b_size_of
theorem mono_size_of : SemMono sp_size_of := semF_mono tbm_size_of _ _
theorem pure_size_of : ∀ vs g Q, sp_size_of vs g Q → semF tb_size_of 1 b_size_of vs g Q := fun _ _ _ q => q
/-! power_of -/
def b_power_of : IS := .seq (.ret (.ife (.cmp .ge (.var 1) (.cst (.int 0))) (.tup (.cons (.call 0 (.cons (.var 0) (.cons (.var 1) .nil))) (.cons (.cst (.int 1)) .nil))) (.call 1 (.cons (.cst (.int 1)) (.cons (.call 0 (.cons (.var 0) (.cons (.neg (.var 1)) .nil))) .nil))))) .skip
def tb_power_of : Tb := ⟨[((Str.ofString "whole_power"), 2, sp_whole_power), ((Str.ofString "reduced"), 2, sp_reduced)], []⟩
theorem tbm_power_of : tb_power_of.Mono := Tb.mono_of fun q hq => by
  simp only [tb_power_of, List.mem_cons, List.not_mem_nil, or_false] at hq
  rcases hq with rfl | rfl
  · exact mono_whole_power
  · exact mono_reduced
def sp_power_of : Sem := semF tb_power_of 2 b_power_of
theorem mono_power_of : SemMono sp_power_of := semF_mono tbm_power_of _ _
theorem pure_power_of : ∀ vs g Q, sp_power_of vs g Q → semF tb_power_of 2 b_power_of vs g Q := fun _ _ _ q => q
/-! compared -/
def b_compared : IS := .seq (.asg (.tup (.cons (.var 2) (.cons (.var 3) .nil))) (.tup (.cons (.bin .mul (.ixc (.var 0) 0) (.ixc (.var 1) 1)) (.cons (.bin .mul (.ixc (.var 1) 0) (.ixc (.var 0) 1)) .nil)))) (.seq (.ret (.bin .sub (.blt .int 0 (.cons (.cmp .gt (.var 2) (.var 3)) .nil)) (.blt .int 0 (.cons (.cmp .lt (.var 2) (.var 3)) .nil)))) .skip)
def tb_compared : Tb := ⟨[], []⟩
theorem tbm_compared : tb_compared.Mono := Tb.mono_of fun q hq => by
  simp only [tb_compared, List.mem_cons, List.not_mem_nil, or_false] at hq
def sp_compared : Sem := semF tb_compared 4 b_compared
theorem mono_compared : SemMono sp_compared := semF_mono tbm_compared _ _
theorem pure_compared : ∀ vs g Q, sp_compared vs g Q → semF tb_compared 4 b_compared vs g Q := fun _ _ _ q => q
/-! floor_of -/
def b_floor_of : IS := .seq (.ret (.bin .fdiv (.ixc (.var 0) 0) (.ixc (.var 0) 1))) .skip
def tb_floor_of : Tb := ⟨[], []⟩
theorem tbm_floor_of : tb_floor_of.Mono := Tb.mono_of fun q hq => by
  simp only [tb_floor_of, List.mem_cons, List.not_mem_nil, or_false] at hq
def sp_floor_of : Sem := semF tb_floor_of 1 b_floor_of
theorem mono_floor_of : SemMono sp_floor_of := semF_mono tbm_floor_of _ _
theorem pure_floor_of : ∀ vs g Q, sp_floor_of vs g Q → semF tb_floor_of 1 b_floor_of vs g Q := fun _ _ _ q => q
/-! ceiling_of -/
def b_ceiling_of : IS := .seq (.ret (.neg (.bin .fdiv (.neg (.ixc (.var 0) 0)) (.ixc (.var 0) 1)))) .skip
def tb_ceiling_of : Tb := ⟨[], []⟩
theorem tbm_ceiling_of : tb_ceiling_of.Mono := Tb.mono_of fun q hq => by
  simp only [tb_ceiling_of, List.mem_cons, List.not_mem_nil, or_false] at hq
def sp_ceiling_of : Sem := semF tb_ceiling_of 1 b_ceiling_of
theorem mono_ceiling_of : SemMono sp_ceiling_of := semF_mono tbm_ceiling_of _ _
theorem pure_ceiling_of : ∀ vs g Q, sp_ceiling_of vs g Q → semF tb_ceiling_of 1 b_ceiling_of vs g Q := fun _ _ _ q => q
/-! nearer_integer -/
def b_nearer_integer : IS := .seq (.asg (.var 3) (.bin .mul (.cst (.int 2)) (.bin .sub (.ixc (.var 1) 0) (.bin .mul (.var 2) (.ixc (.var 1) 1))))) (.seq (.ifs (.cmp .ne (.var 3) (.ixc (.var 1) 1)) (.seq (.ret (.bin .add (.var 2) (.blt .int 0 (.cons (.cmp .gt (.var 3) (.ixc (.var 1) 1)) .nil)))) .skip) (.skip)) (.seq (.ifs (.cmp .eq (.var 0) (.cst (.str (Str.ofString "even")))) (.seq (.ret (.bin .add (.var 2) (.bin .mod (.var 2) (.cst (.int 2))))) .skip) (.skip)) (.seq (.ret (.bin .add (.var 2) (.blt .int 0 (.cons (.cmp .gt (.ixc (.var 1) 0) (.cst (.int 0))) .nil)))) .skip)))
def tb_nearer_integer : Tb := ⟨[], []⟩
theorem tbm_nearer_integer : tb_nearer_integer.Mono := Tb.mono_of fun q hq => by
  simp only [tb_nearer_integer, List.mem_cons, List.not_mem_nil, or_false] at hq
def sp_nearer_integer : Sem := semF tb_nearer_integer 4 b_nearer_integer
theorem mono_nearer_integer : SemMono sp_nearer_integer := semF_mono tbm_nearer_integer _ _
theorem pure_nearer_integer : ∀ vs g Q, sp_nearer_integer vs g Q → semF tb_nearer_integer 4 b_nearer_integer vs g Q := fun _ _ _ q => q
/-! nearest_integer -/
def b_nearest_integer : IS := .seq (.asg (.tup (.cons (.var 2) (.cons (.var 3) .nil))) (.tup (.cons (.call 0 (.cons (.var 1) .nil)) (.cons (.call 1 (.cons (.var 1) .nil)) .nil)))) (.seq (.ifs (.oo (.cmp .eq (.var 0) (.cst (.str (Str.ofString "down")))) (.cmp .eq (.var 2) (.var 3))) (.seq (.ret (.var 2)) .skip) (.skip)) (.seq (.ifs (.cmp .eq (.var 0) (.cst (.str (Str.ofString "up")))) (.seq (.ret (.var 3)) .skip) (.skip)) (.seq (.ifs (.cmp .eq (.var 0) (.cst (.str (Str.ofString "zero")))) (.seq (.ret (.ife (.cmp .gt (.ixc (.var 1) 0) (.cst (.int 0))) (.var 2) (.var 3))) .skip) (.skip)) (.seq (.ret (.call 2 (.cons (.var 0) (.cons (.var 1) (.cons (.var 2) .nil))))) .skip))))
def tb_nearest_integer : Tb := ⟨[((Str.ofString "floor_of"), 1, sp_floor_of), ((Str.ofString "ceiling_of"), 1, sp_ceiling_of), ((Str.ofString "nearer_integer"), 3, sp_nearer_integer)], []⟩
theorem tbm_nearest_integer : tb_nearest_integer.Mono := Tb.mono_of fun q hq => by
  simp only [tb_nearest_integer, List.mem_cons, List.not_mem_nil, or_false] at hq
  rcases hq with rfl | rfl | rfl
  · exact mono_floor_of
  · exact mono_ceiling_of
  · exact mono_nearer_integer
def sp_nearest_integer : Sem := fun vs g Q => match vs with
  | [.d (.str way), .d (.tuple [.int n, .int d])] => (way ∈ ways5 ∧ 0 < d ∧ Bd 8000 n ∧ Bd 8000 d) ∧ Q (.d (.int (near way n d (n.fdiv d) (n - n.fdiv d * d)))) g
  | _ => False
theorem mono_nearest_integer : SemMono sp_nearest_integer := by
  unfold sp_nearest_integer
  walk_at "mono"
theorem pure_nearest_integer : ∀ vs g Q, sp_nearest_integer vs g Q → semF tb_nearest_integer 4 b_nearest_integer vs g Q := by
  intro vs g Q h
  unfold sp_nearest_integer at h
  split at h
  · rename_i way n d
    obtain ⟨⟨hw, hd, hbn, hbd⟩, h⟩ := h
    obtain ⟨q, r, hq, hn, h0, h1⟩ := fdiv_parts (n := n) hd
    have hc := ceil_parts hd hn h0 h1
    have hr : n - n.fdiv d * d = r := by rw [hq]; omega
    rw [hr, hq] at h
    have dv : d ≠ 0 ∧ d.natAbs.log2 < 9000 := hbd.divOk (by omega) (by decide)
    have x1 : ("down" : Str) ≠ "up" := by decide
    have x2 : ("down" : Str) ≠ "zero" := by decide
    have x3 : ("up" : Str) ≠ "zero" := by decide
    have x4 : ("even" : Str) ≠ "zero" := by decide
    have x5 : ("even" : Str) ≠ "up" := by decide
    have x6 : ("even" : Str) ≠ "down" := by decide
    have b2 : Bd 64 (2 : Int) := Bd.lit64 2 (by omega)
    walk_at "vi"
    all_goals refine Eq.mp (congrArg (fun z : Int => Q (.d (.int z)) g) ?_) h
    all_goals unfold near
    all_goals grind
  · exact h.elim
/-! _law_bag -/
def b_law_bag : IS := .seq (.ret (.lst 2 (.cons (.cst (.int 0)) (.cons (.cst (.int 1234567891)) (.cons (.cst (.int 0)) (.cons (.cmpr 0 [1] (.var 1) (.sl 0 (.var 0) (.nil) (.cst (.int 63))) (.nil) (.blt .abs 0 (.cons (.var 1) .nil))) .nil)))))) .skip
def tb_law_bag : Tb := ⟨[], []⟩
theorem tbm_law_bag : tb_law_bag.Mono := Tb.mono_of fun q hq => by
  simp only [tb_law_bag, List.mem_cons, List.not_mem_nil, or_false] at hq
def sp_law_bag : Sem := fun vs g Q => match vs with
  | [.sc xs] => (∃ ns : List Int, xs = ns.map PyData.int) ∧ ∀ bag, BagAt 0 bag → Q (.gm g.length) (g ++ [bag])
  | _ => False
theorem mono_law_bag : SemMono sp_law_bag := by
  unfold sp_law_bag
  intro vs g Q Q' h q
  revert q
  split
  · exact fun q => ⟨q.1, fun b hb => h _ _ (q.2 b hb)⟩
  · exact fun q => q.elim
theorem pure_law_bag : ∀ vs g Q, sp_law_bag vs g Q → semF tb_law_bag 2 b_law_bag vs g Q := by
  intro vs g Q h
  unfold sp_law_bag at h
  split at h
  · rename_i xs
    obtain ⟨⟨ns, rfl⟩, h⟩ := h
    walk_at "vi"
    · rw [cut_map]
      refine loopC_map (fun d => match d with
        | .int i => .int (i.natAbs : Int)
        | d => d) _ [] (fun x hx k' hk => ?_) ?_
      · obtain ⟨i, _, rfl⟩ := List.mem_map.mp hx
        exact hk
      · walk_at "vi"
        refine h _ ⟨0, 1234567891, 0, (cutD ns none (some 63)).map fun i => (i.natAbs : Int), ?_, by unfold Bd; omega, by omega, by omega, ?_⟩
        · simp [List.map_map, Function.comp_def]
        · rw [List.length_map]
          exact cut_le 63 ns
    · rw [cut_map, List.length_map]
      have : (cutD ns none (some 63)).length ≤ 63 := cut_le 63 ns
      omega
  · exact h.elim
/-! _law_take -/
def b_law_take : IS := .seq (.ifs (.cmp .eq (.ixc (.var 0) 0) (.cst (.int 0))) (.seq (.asg (.var 4) (.ixc (.bin .add (.sl 0 (.ixc (.var 0) 3) (.ixc (.var 0) 2) (.nil)) (.lst 0 (.cons (.cst (.int 0)) .nil))) 0)) (.seq (.augS .add (.var 0) (.cst (.int 2)) (.cst (.int 1))) (.seq (.ifs (.cmp .ge (.var 4) (.bin .pow (.cst (.int 10)) (.cst (.int 18)))) (.seq (.setI (.var 0) (.cst (.int 0)) (.var 4)) .skip) (.skip)) (.seq (.asg (.var 5) (.bin .add (.bin .add (.bin .mul (.ixc (.var 0) 1) (.cst (.int 48271))) (.bin .mod (.blt .int 0 (.cons (.var 4) .nil)) (.cst (.int 2147483647)))) (.bin .mul (.cst (.int 7919)) (.ixc (.var 0) 2)))) (.seq (.setI (.var 0) (.cst (.int 1)) (.bin .mod (.blt .int 0 (.cons (.var 5) .nil)) (.cst (.int 2147483647)))) .skip))))) (.skip)) (.seq (.ifs (.cmp .gt (.ixc (.var 0) 0) (.cst (.int 0))) (.seq (.asg (.var 6) (.bin .mod (.blt .int 0 (.cons (.ixc (.var 0) 0) .nil)) (.var 1))) (.seq (.setI (.var 0) (.cst (.int 0)) (.bin .fdiv (.blt .int 0 (.cons (.ixc (.var 0) 0) .nil)) (.var 1))) (.seq (.ret (.var 6)) .skip))) (.skip)) (.seq (.asg (.var 2) (.bin .mod (.blt .int 0 (.cons (.bin .mul (.bin .add (.ixc (.var 0) 1) (.cst (.int 1))) (.cst (.int 39373))) .nil)) (.cst (.int 1000000007)))) (.seq (.asg (.var 3) (.bin .mod (.blt .int 0 (.cons (.bin .mul (.bin .mod (.blt .int 0 (.cons (.bin .mul (.var 2) (.var 2)) .nil)) (.cst (.int 998244353))) (.cst (.int 30011))) .nil)) (.cst (.int 998244353)))) (.seq (.ret (.bin .mod (.blt .int 0 (.cons (.bin .fdiv (.var 3) (.cst (.int 7))) .nil)) (.var 1))) .skip))))
def tb_law_take : Tb := ⟨[], []⟩
theorem tbm_law_take : tb_law_take.Mono := Tb.mono_of fun q hq => by
  simp only [tb_law_take, List.mem_cons, List.not_mem_nil, or_false] at hq
def sp_law_take : Sem := fun vs g Q => match vs, g with
  | [.gm 0, .d (.int m)], xs :: gs => ∃ C, (BagAt C xs ∧ C < 2 ^ 62 ∧ 0 < m ∧ Bd 8000 m) ∧ ∀ v xs', 0 ≤ v → v < m → BagAt (C + 1) xs' → Q (.d (.int v)) (xs' :: gs)
  | _, _ => False
theorem mono_law_take : SemMono sp_law_take := by
  unfold sp_law_take
  intro vs g Q Q' h q
  revert q
  split
  · rintro ⟨C, a, b⟩
    exact ⟨C, a, fun v xs' h0 h1 h2 => h _ _ (b v xs' h0 h1 h2)⟩
  · exact fun q => q.elim
theorem take_cell (cs : List Int) (c : Int) (hc : 0 ≤ c) : ∃ z : Int, (cutD (cs.map PyData.int) (some c) none ++ [PyData.int 0])[0]? = some (PyData.int z) := by
  have : ∀ l : List Int, ∃ z : Int, ((l.map PyData.int) ++ [PyData.int 0])[0]? = some (PyData.int z) := fun l => by
    cases l with
    | nil => exact ⟨0, rfl⟩
    | cons a l => exact ⟨a, rfl⟩
  unfold cutD
  rw [← List.map_drop, ← List.map_take]
  exact this _
theorem pure_law_take : ∀ vs g Q, sp_law_take vs g Q → semF tb_law_take 7 b_law_take vs g Q := by
  intro vs g Q h
  unfold sp_law_take at h
  split at h
  · rename_i m xs gs
    obtain ⟨C, ⟨⟨a, b, c, cs, rfl, hb, hc, hC, hl⟩, hC2, hm, hbm⟩, h⟩ := h
    obtain ⟨z, hz⟩ := take_cell cs c hc
    have hbc : Bd 62 c := by
      unfold Bd
      omega
    have fin : ∀ (x : Int) (a b c : Int), Bd 31 b → 0 ≤ c → c ≤ (C : Int) + 1 → Q (.d (.int (x % m))) ([.int a, .int b, .int c, .list (cs.map PyData.int)] :: gs) := fun x a b c h1 h2 h3 =>
      h _ _ (Int.emod_nonneg _ (by omega)) (Int.emod_lt_of_pos _ hm) ⟨a, b, c, cs, rfl, h1, h2, by omega, hl⟩
    have hmod : ∀ x : Int, Bd 31 (x % 2147483647) := fun x => (Bd.emod (Bd.lit 2147483647) (by decide)).up (by decide)
    have hc1 : Bd 63 (c + 1) := (hbc.add (Bd.lit 1)).up (by decide)
    walk_at "vi"
    · rw [hz]
      walk_at "vi"
      all_goals first | exact fin _ _ _ _ (hmod _) (by omega) (by omega) | exact fin _ _ _ _ hb (by omega) (by omega) | skip
    all_goals first | exact fin _ _ _ _ hb (by omega) (by omega) | skip
    · have := cut_len (cs.map PyData.int) (some c) none
      rw [List.length_map] at this
      show (cutD (cs.map PyData.int) (some c) none).length + 1 ≤ 1000000
      omega
  · exact h.elim
/-! _law_some -/
def b_law_some : IS := .seq (.ret (.ix (.var 1) (.call 0 (.cons (.var 0) (.cons (.blt .len 0 (.cons (.var 1) .nil)) .nil))))) .skip
def tb_law_some : Tb := ⟨[((Str.ofString "_law_take"), 2, sp_law_take)], []⟩
theorem tbm_law_some : tb_law_some.Mono := Tb.mono_of fun q hq => by
  simp only [tb_law_some, List.mem_cons, List.not_mem_nil, or_false] at hq
  subst hq
  exact mono_law_take
def sp_law_some : Sem := fun vs g Q => match vs, g with
  | [.gm 0, .d (.list ys)], xs :: gs => ∃ C, (BagAt C xs ∧ C < 2 ^ 62 ∧ ys ≠ [] ∧ ys.length ≤ 1000000) ∧ ∀ y xs', y ∈ ys → BagAt (C + 1) xs' → Q (.d y) (xs' :: gs)
  | [.gm 0, .d (.tuple ys)], xs :: gs => ∃ C, (BagAt C xs ∧ C < 2 ^ 62 ∧ ys ≠ [] ∧ ys.length ≤ 1000000) ∧ ∀ y xs', y ∈ ys → BagAt (C + 1) xs' → Q (.d y) (xs' :: gs)
  | _, _ => False
theorem mono_law_some : SemMono sp_law_some := by
  unfold sp_law_some
  intro vs g Q Q' h q
  revert q
  split
  · rintro ⟨C, a, b⟩
    exact ⟨C, a, fun v xs' h0 h1 => h _ _ (b v xs' h0 h1)⟩
  · rintro ⟨C, a, b⟩
    exact ⟨C, a, fun v xs' h0 h1 => h _ _ (b v xs' h0 h1)⟩
  · exact fun q => q.elim
theorem atI_some {ys : List D} {v : Int} (h0 : 0 ≤ v) (h1 : v < ys.length) : ∃ y, L2.atI ys v = some y ∧ y ∈ ys := by
  obtain ⟨n, rfl⟩ : ∃ n : Nat, v = n := ⟨v.toNat, by omega⟩
  have hn : n < ys.length := by omega
  exact ⟨ys[n], L2.atI_nat (List.getElem?_eq_getElem hn), List.getElem_mem hn⟩
theorem pure_law_some : ∀ vs g Q, sp_law_some vs g Q → semF tb_law_some 2 b_law_some vs g Q := by
  intro vs g Q h
  unfold sp_law_some at h
  have len : ∀ ys : List D, ys ≠ [] → ys.length ≤ 1000000 → 0 < (ys.length : Int) ∧ Bd 8000 (ys.length : Int) := fun ys h0 h1 => by
    have : 0 < ys.length := List.length_pos_iff.mpr h0
    refine ⟨by omega, Bd.up (k := 64) (Bd.lit64 _ (by omega)) (by decide)⟩
  split at h
  · rename_i ys xs gs
    obtain ⟨C, ⟨hb, hC, hy, hl⟩, h⟩ := h
    obtain ⟨l1, l2⟩ := len ys hy hl
    walk_at "vi"
    refine ⟨C, ⟨hb, hC, l1, l2⟩, fun v xs' h0 h1 hb' => ?_⟩
    walk_at "vi"
    obtain ⟨y, e, hm⟩ := atI_some h0 h1
    rw [e]
    exact h y xs' hm hb'
  · rename_i ys xs gs
    obtain ⟨C, ⟨hb, hC, hy, hl⟩, h⟩ := h
    obtain ⟨l1, l2⟩ := len ys hy hl
    walk_at "vi"
    refine ⟨C, ⟨hb, hC, l1, l2⟩, fun v xs' h0 h1 hb' => ?_⟩
    walk_at "vi"
    obtain ⟨y, e, hm⟩ := atI_some h0 h1
    rw [e]
    exact h y xs' hm hb'
  · exact h.elim
/-! _law_alike -/
def b_law_alike : IS := .seq (.ret (.an (.cmp .eq (.var 0) (.var 1)) (.cmp .eq (.blt .repr 0 (.cons (.var 0) .nil)) (.blt .repr 0 (.cons (.var 1) .nil))))) .skip
def tb_law_alike : Tb := ⟨[], []⟩
theorem tbm_law_alike : tb_law_alike.Mono := Tb.mono_of fun q hq => by
  simp only [tb_law_alike, List.mem_cons, List.not_mem_nil, or_false] at hq
def sp_law_alike : Sem := fun vs g Q => match vs with
  | [.d x, .d y] => (x = y ∧ RepOk x) ∧ Q (.d (.bool true)) g
  | _ => False
theorem mono_law_alike : SemMono sp_law_alike := by
  unfold sp_law_alike
  walk_at "mono"
theorem pure_law_alike : ∀ vs g Q, sp_law_alike vs g Q → semF tb_law_alike 2 b_law_alike vs g Q := by
  intro vs g Q h
  unfold sp_law_alike at h
  split at h
  · rename_i x y
    obtain ⟨⟨rfl, hr⟩, h⟩ := h
    have e := eqv_self hr.1
    have ob : flatP x x = true ∨ Shp x ∧ Shp x := .inr ⟨hr.1, hr.1⟩
    walk_at "vi"
    · show Q (.d (.bool (PyData.eqv (.str _) (.str _)))) g
      rw [eqv_str, decide_eq_true rfl]
      exact h
    · rename_i hn
      rw [e] at hn
      cases hn
  · exact h.elim
/-! _law_common -/
def b_law_common : IS := .seq (.asg (.tup (.cons (.var 0) (.cons (.var 1) .nil))) (.tup (.cons (.blt .abs 0 (.cons (.var 0) .nil)) (.cons (.blt .abs 0 (.cons (.var 1) .nil)) .nil)))) (.seq (.whl (.cmp .gt (.var 1) (.cst (.int 0))) (.seq (.asg (.tup (.cons (.var 0) (.cons (.var 1) .nil))) (.tup (.cons (.var 1) (.cons (.bin .mod (.blt .int 0 (.cons (.var 0) .nil)) (.var 1)) .nil)))) .skip)) (.seq (.ret (.var 0)) .skip))
def tb_law_common : Tb := ⟨[], []⟩
theorem tbm_law_common : tb_law_common.Mono := Tb.mono_of fun q hq => by
  simp only [tb_law_common, List.mem_cons, List.not_mem_nil, or_false] at hq
def sp_law_common : Sem := fun vs g Q => match vs with
  | [.d (.int a), .d (.int b)] => Q (.d (.int (Int.gcd a b : Int))) g
  | _ => False
theorem mono_law_common : SemMono sp_law_common := by
  unfold sp_law_common
  walk_at "mono"
theorem pure_law_common : ∀ vs g Q, sp_law_common vs g Q → semF tb_law_common 2 b_law_common vs g Q := by
  intro vs g Q h
  unfold sp_law_common at h
  split at h
  · rename_i a b
    walk_at "vi"
    refine ⟨fun m env st => ∃ x y : Nat, env = [some (.d (.int x)), some (.d (.int y))] ∧ st = ⟨g, []⟩ ∧ m = y ∧ Nat.gcd x y = Int.gcd a b, ⟨_, a.natAbs, b.natAbs, rfl, rfl, rfl, rfl⟩, ?_⟩
    rintro m _ _ ⟨x, y, rfl, rfl, rfl, hg⟩
    walk_at "vi"
    · refine ⟨x % m, ?_, m, x % m, ?_, rfl, rfl, ?_⟩
      · exact Nat.mod_lt _ (by omega)
      · simp [put]
      · rw [← hg, Nat.gcd_comm x m, Nat.gcd_rec m x, Nat.gcd_comm]
    · have e0 : m = 0 := by omega
      subst e0
      rw [Nat.gcd_zero_right] at hg
      rw [hg]
      exact h
  · exact h.elim
/-! _law_to -/
def b_law_to : IS := .seq (.asg (.tup (.cons (.var 2) (.cons (.var 3) .nil))) (.tup (.cons (.cst (.int 1)) (.cons (.var 0) .nil)))) (.seq (.whl (.cmp .gt (.var 1) (.cst (.int 0))) (.seq (.ifs (.cmp .eq (.bin .mod (.blt .int 0 (.cons (.var 1) .nil)) (.cst (.int 2))) (.cst (.int 1))) (.seq (.asg (.var 2) (.bin .mul (.var 2) (.var 3))) .skip) (.skip)) (.seq (.asg (.tup (.cons (.var 3) (.cons (.var 1) .nil))) (.tup (.cons (.bin .mul (.var 3) (.var 3)) (.cons (.bin .fdiv (.blt .int 0 (.cons (.var 1) .nil)) (.cst (.int 2))) .nil)))) .skip))) (.seq (.ret (.var 2)) .skip))
def tb_law_to : Tb := ⟨[], []⟩
theorem tbm_law_to : tb_law_to.Mono := Tb.mono_of fun q hq => by
  simp only [tb_law_to, List.mem_cons, List.not_mem_nil, or_false] at hq
def sp_law_to : Sem := fun vs g Q => match vs with
  | [.d (.int b), .d (.int e)] => (∃ k, Bd k b ∧ 0 ≤ e ∧ k * (4 * e.toNat + 4) ≤ 900000) ∧ Q (.d (.int (b ^ e.toNat))) g
  | _ => False
theorem mono_law_to : SemMono sp_law_to := by
  unfold sp_law_to
  walk_at "mono"
theorem pure_law_to : ∀ vs g Q, sp_law_to vs g Q → semF tb_law_to 4 b_law_to vs g Q := by
  intro vs g Q h
  unfold sp_law_to at h
  split at h
  · rename_i b e
    obtain ⟨⟨k, hk, he, hb⟩, h⟩ := h
    walk_at "vi"
    refine ⟨fun m env st => ∃ (p r e' : Nat), env = [some (.d (.int b)), some (.d (.int e')), some (.d (.int (b ^ r))), some (.d (.int (b ^ p)))] ∧ st = ⟨g, []⟩ ∧ e' = m ∧ r + p * e' = e.toNat ∧ 1 ≤ p, ⟨_, 1, 0, e.toNat, ?_, rfl, rfl, by omega, by omega⟩, ?_⟩
    · simp [put, Int.toNat_of_nonneg he, Int.pow_succ]
    rintro m _ _ ⟨p, r, e', rfl, rfl, rfl, hs, hp⟩
    have ok : 0 < e' → ∀ x y, x ≤ e.toNat → y ≤ e.toNat → MulOk (b ^ x) (b ^ y) := fun h0 x y hx hy => by
      have h1 := Nat.mul_le_mul_left k hx
      have h2 := Nat.mul_le_mul_left k hy
      rw [Nat.mul_add, ← Nat.mul_assoc, Nat.mul_comm k 4, Nat.mul_assoc] at hb
      exact (hk.pow x).mulOk (hk.pow y) (by omega)
    have hpe : 0 < e' → p ≤ p * e' := fun h0 => Nat.le_mul_of_pos_right p h0
    walk_at "vi"
    · rename_i h0 h1
      obtain ⟨q, rfl⟩ : ∃ q, e' = 2 * q + 1 := ⟨e' / 2, by omega⟩
      refine ⟨q, by omega, 2 * p, r + p, q, ?_, rfl, rfl, by rw [← hs]; grind, by omega⟩
      have e1 : (2 * q + 1 : Nat) / 2 = q := by omega
      simp only [put]
      rw [Int.fdiv_eq_ediv_of_nonneg _ (by decide), show ((2 * q + 1 : Nat) : Int) / 2 = (q : Int) by omega, ← Int.pow_add, ← Int.pow_add, Nat.two_mul]
    · exact ok (by omega) _ _ (by have := hpe (by omega); omega) (by have := hpe (by omega); omega)
    · exact ok (by omega) _ _ (by omega) (by have := hpe (by omega); omega)
    · rename_i h0 h1
      obtain ⟨q, rfl⟩ : ∃ q, e' = 2 * q := ⟨e' / 2, by omega⟩
      refine ⟨q, by omega, 2 * p, r, q, ?_, rfl, rfl, by rw [← hs]; grind, by omega⟩
      simp only [put]
      rw [Int.fdiv_eq_ediv_of_nonneg _ (by decide), show ((2 * q : Nat) : Int) / 2 = (q : Int) by omega, ← Int.pow_add, Nat.two_mul]
    · exact ok (by omega) _ _ (by have := hpe (by omega); omega) (by have := hpe (by omega); omega)
    · rename_i h0
      have e0 : e' = 0 := by omega
      subst e0
      have hr : r = e.toNat := by omega
      rw [hr]
      exact h
  · exact h.elim
/-! _law_over -/
def b_law_over : IS := .seq (.asg (.var 2) (.call 0 (.cons (.var 0) (.cons (.var 1) .nil)))) (.seq (.asg (.var 2) (.ife (.cmp .gt (.var 1) (.cst (.int 0))) (.var 2) (.neg (.var 2)))) (.seq (.ret (.tup (.cons (.bin .fdiv (.blt .int 0 (.cons (.var 0) .nil)) (.var 2)) (.cons (.bin .fdiv (.blt .int 0 (.cons (.var 1) .nil)) (.var 2)) .nil)))) .skip))
def tb_law_over : Tb := ⟨[((Str.ofString "_law_common"), 2, sp_law_common)], []⟩
theorem tbm_law_over : tb_law_over.Mono := Tb.mono_of fun q hq => by
  simp only [tb_law_over, List.mem_cons, List.not_mem_nil, or_false] at hq
  subst hq
  exact mono_law_common
def sp_law_over : Sem := fun vs g Q => match vs with
  | [.d (.int n), .d (.int d)] => (d ≠ 0 ∧ Bd 8000 d) ∧ Q (.d (dF (nrm n d))) g
  | _ => False
theorem mono_law_over : SemMono sp_law_over := by
  unfold sp_law_over
  walk_at "mono"
theorem pure_law_over : ∀ vs g Q, sp_law_over vs g Q → semF tb_law_over 3 b_law_over vs g Q := by
  intro vs g Q h
  unfold sp_law_over at h
  split at h
  · rename_i n d
    obtain ⟨⟨h0, hb⟩, h⟩ := h
    have hg : (Int.gcd n d : Int) ≠ 0 := fun e => h0 (Int.gcd_eq_zero_iff.mp (by omega : Int.gcd n d = 0)).2
    have d1 : ((Int.gcd n d : Int) ≠ 0 ∧ (Int.gcd n d : Int).natAbs.log2 < 9000) := (hb.gcd (x := n) h0).divOk hg (by decide)
    have d2 : (-(Int.gcd n d : Int) ≠ 0 ∧ (-(Int.gcd n d : Int)).natAbs.log2 < 9000) := (hb.gcd (x := n) h0).neg.divOk (by omega) (by decide)
    unfold nrm dF at h
    walk_at "vi"
    · rename_i hp
      rw [if_pos hp] at h
      exact h
    · rename_i hp
      rw [if_neg (by omega)] at h
      exact h
  · exact h.elim
/-! _law_added -/
def b_law_added : IS := .seq (.ret (.call 0 (.cons (.bin .add (.bin .mul (.ixc (.var 0) 0) (.ixc (.var 1) 1)) (.bin .mul (.ixc (.var 1) 0) (.ixc (.var 0) 1))) (.cons (.bin .mul (.ixc (.var 0) 1) (.ixc (.var 1) 1)) .nil)))) .skip
def tb_law_added : Tb := ⟨[((Str.ofString "_law_over"), 2, sp_law_over)], []⟩
theorem tbm_law_added : tb_law_added.Mono := Tb.mono_of fun q hq => by
  simp only [tb_law_added, List.mem_cons, List.not_mem_nil, or_false] at hq
  subst hq
  exact mono_law_over
def sp_law_added : Sem := semF tb_law_added 2 b_law_added
theorem mono_law_added : SemMono sp_law_added := semF_mono tbm_law_added _ _
theorem pure_law_added : ∀ vs g Q, sp_law_added vs g Q → semF tb_law_added 2 b_law_added vs g Q := fun _ _ _ q => q
/-! _law_lessened -/
def b_law_lessened : IS := .seq (.ret (.call 0 (.cons (.bin .sub (.bin .mul (.ixc (.var 0) 0) (.ixc (.var 1) 1)) (.bin .mul (.ixc (.var 1) 0) (.ixc (.var 0) 1))) (.cons (.bin .mul (.ixc (.var 0) 1) (.ixc (.var 1) 1)) .nil)))) .skip
def tb_law_lessened : Tb := ⟨[((Str.ofString "_law_over"), 2, sp_law_over)], []⟩
theorem tbm_law_lessened : tb_law_lessened.Mono := Tb.mono_of fun q hq => by
  simp only [tb_law_lessened, List.mem_cons, List.not_mem_nil, or_false] at hq
  subst hq
  exact mono_law_over
def sp_law_lessened : Sem := semF tb_law_lessened 2 b_law_lessened
theorem mono_law_lessened : SemMono sp_law_lessened := semF_mono tbm_law_lessened _ _
theorem pure_law_lessened : ∀ vs g Q, sp_law_lessened vs g Q → semF tb_law_lessened 2 b_law_lessened vs g Q := fun _ _ _ q => q
/-! _law_multiplied -/
def b_law_multiplied : IS := .seq (.ret (.call 0 (.cons (.bin .mul (.ixc (.var 0) 0) (.ixc (.var 1) 0)) (.cons (.bin .mul (.ixc (.var 0) 1) (.ixc (.var 1) 1)) .nil)))) .skip
def tb_law_multiplied : Tb := ⟨[((Str.ofString "_law_over"), 2, sp_law_over)], []⟩
theorem tbm_law_multiplied : tb_law_multiplied.Mono := Tb.mono_of fun q hq => by
  simp only [tb_law_multiplied, List.mem_cons, List.not_mem_nil, or_false] at hq
  subst hq
  exact mono_law_over
def sp_law_multiplied : Sem := semF tb_law_multiplied 2 b_law_multiplied
theorem mono_law_multiplied : SemMono sp_law_multiplied := semF_mono tbm_law_multiplied _ _
theorem pure_law_multiplied : ∀ vs g Q, sp_law_multiplied vs g Q → semF tb_law_multiplied 2 b_law_multiplied vs g Q := fun _ _ _ q => q
/-! _law_divided -/
def b_law_divided : IS := .seq (.ret (.call 0 (.cons (.bin .mul (.ixc (.var 0) 0) (.ixc (.var 1) 1)) (.cons (.bin .mul (.ixc (.var 0) 1) (.ixc (.var 1) 0)) .nil)))) .skip
def tb_law_divided : Tb := ⟨[((Str.ofString "_law_over"), 2, sp_law_over)], []⟩
theorem tbm_law_divided : tb_law_divided.Mono := Tb.mono_of fun q hq => by
  simp only [tb_law_divided, List.mem_cons, List.not_mem_nil, or_false] at hq
  subst hq
  exact mono_law_over
def sp_law_divided : Sem := semF tb_law_divided 2 b_law_divided
theorem mono_law_divided : SemMono sp_law_divided := semF_mono tbm_law_divided _ _
theorem pure_law_divided : ∀ vs g Q, sp_law_divided vs g Q → semF tb_law_divided 2 b_law_divided vs g Q := fun _ _ _ q => q
/-! _law_is_below -/
def b_law_is_below : IS := .seq (.ret (.cmp .lt (.bin .mul (.ixc (.var 0) 0) (.ixc (.var 1) 1)) (.bin .mul (.ixc (.var 1) 0) (.ixc (.var 0) 1)))) .skip
def tb_law_is_below : Tb := ⟨[], []⟩
theorem tbm_law_is_below : tb_law_is_below.Mono := Tb.mono_of fun q hq => by
  simp only [tb_law_is_below, List.mem_cons, List.not_mem_nil, or_false] at hq
def sp_law_is_below : Sem := semF tb_law_is_below 2 b_law_is_below
theorem mono_law_is_below : SemMono sp_law_is_below := semF_mono tbm_law_is_below _ _
theorem pure_law_is_below : ∀ vs g Q, sp_law_is_below vs g Q → semF tb_law_is_below 2 b_law_is_below vs g Q := fun _ _ _ q => q
/-! _law_sized -/
def b_law_sized : IS := .seq (.ret (.tup (.cons (.blt .abs 0 (.cons (.ixc (.var 0) 0) .nil)) (.cons (.ixc (.var 0) 1) .nil)))) .skip
def tb_law_sized : Tb := ⟨[], []⟩
theorem tbm_law_sized : tb_law_sized.Mono := Tb.mono_of fun q hq => by
  simp only [tb_law_sized, List.mem_cons, List.not_mem_nil, or_false] at hq
def sp_law_sized : Sem := semF tb_law_sized 1 b_law_sized
theorem mono_law_sized : SemMono sp_law_sized := semF_mono tbm_law_sized _ _
theorem pure_law_sized : ∀ vs g Q, sp_law_sized vs g Q → semF tb_law_sized 1 b_law_sized vs g Q := fun _ _ _ q => q
/-! _law_power -/
def b_law_power : IS := .seq (.ret (.ife (.cmp .ge (.var 1) (.cst (.int 0))) (.tup (.cons (.call 0 (.cons (.var 0) (.cons (.var 1) .nil))) (.cons (.cst (.int 1)) .nil))) (.tup (.cons (.cst (.int 1)) (.cons (.call 0 (.cons (.var 0) (.cons (.neg (.var 1)) .nil))) .nil))))) .skip
def tb_law_power : Tb := ⟨[((Str.ofString "_law_to"), 2, sp_law_to)], []⟩
theorem tbm_law_power : tb_law_power.Mono := Tb.mono_of fun q hq => by
  simp only [tb_law_power, List.mem_cons, List.not_mem_nil, or_false] at hq
  subst hq
  exact mono_law_to
def sp_law_power : Sem := semF tb_law_power 2 b_law_power
theorem mono_law_power : SemMono sp_law_power := semF_mono tbm_law_power _ _
theorem pure_law_power : ∀ vs g Q, sp_law_power vs g Q → semF tb_law_power 2 b_law_power vs g Q := fun _ _ _ q => q
/-! _law_ways -/
def b_law_ways : IS := .seq (.ret (.lst 0 (.cons (.cst (.str (Str.ofString "even"))) (.cons (.cst (.str (Str.ofString "away"))) (.cons (.cst (.str (Str.ofString "up"))) (.cons (.cst (.str (Str.ofString "down"))) (.cons (.cst (.str (Str.ofString "zero"))) .nil))))))) .skip
def tb_law_ways : Tb := ⟨[], []⟩
theorem tbm_law_ways : tb_law_ways.Mono := Tb.mono_of fun q hq => by
  simp only [tb_law_ways, List.mem_cons, List.not_mem_nil, or_false] at hq
def sp_law_ways : Sem := semF tb_law_ways 0 b_law_ways
theorem mono_law_ways : SemMono sp_law_ways := semF_mono tbm_law_ways _ _
theorem pure_law_ways : ∀ vs g Q, sp_law_ways vs g Q → semF tb_law_ways 0 b_law_ways vs g Q := fun _ _ _ q => q
/-! _law_compared -/
def b_law_compared : IS := .seq (.ret (.bin .sub (.blt .int 0 (.cons (.call 0 (.cons (.var 1) (.cons (.var 0) .nil))) .nil)) (.blt .int 0 (.cons (.call 0 (.cons (.var 0) (.cons (.var 1) .nil))) .nil)))) .skip
def tb_law_compared : Tb := ⟨[((Str.ofString "_law_is_below"), 2, sp_law_is_below)], []⟩
theorem tbm_law_compared : tb_law_compared.Mono := Tb.mono_of fun q hq => by
  simp only [tb_law_compared, List.mem_cons, List.not_mem_nil, or_false] at hq
  subst hq
  exact mono_law_is_below
def sp_law_compared : Sem := semF tb_law_compared 2 b_law_compared
theorem mono_law_compared : SemMono sp_law_compared := semF_mono tbm_law_compared _ _
theorem pure_law_compared : ∀ vs g Q, sp_law_compared vs g Q → semF tb_law_compared 2 b_law_compared vs g Q := fun _ _ _ q => q
/-! _law_drawn_fraction -/
def b_law_drawn_fraction : IS := .seq (.asg (.var 1) (.call 0 (.cons (.var 0) (.cons (.cst (.int 5)) .nil)))) (.seq (.ifs (.cmp .eq (.var 1) (.cst (.int 0))) (.seq (.ret (.call 1 (.cons (.bin .sub (.call 0 (.cons (.var 0) (.cons (.bin .pow (.cst (.int 10)) (.cst (.int 60))) .nil))) (.bin .mul (.cst (.int 5)) (.bin .pow (.cst (.int 10)) (.cst (.int 59))))) (.cons (.bin .add (.cst (.int 1)) (.call 0 (.cons (.var 0) (.cons (.bin .pow (.cst (.int 10)) (.cst (.int 60))) .nil)))) .nil)))) .skip) (.skip)) (.seq (.ifs (.cmp .eq (.var 1) (.cst (.int 1))) (.seq (.ret (.call 1 (.cons (.bin .sub (.bin .mul (.cst (.int 2)) (.call 0 (.cons (.var 0) (.cons (.cst (.int 40)) .nil)))) (.cst (.int 39))) (.cons (.cst (.int 2)) .nil)))) .skip) (.skip)) (.seq (.ret (.call 1 (.cons (.call 2 (.cons (.var 0) (.cons (.lst 0 (.cons (.cst (.int 0)) (.cons (.cst (.int 1)) (.cons (.neg (.cst (.int 1))) (.cons (.cst (.int 5)) (.cons (.neg (.cst (.int 7))) (.cons (.cst (.int 12)) (.cons (.cst (.int 100)) (.cons (.neg (.cst (.int 64))) .nil))))))))) .nil))) (.cons (.call 2 (.cons (.var 0) (.cons (.lst 0 (.cons (.cst (.int 1)) (.cons (.cst (.int 2)) (.cons (.cst (.int 3)) (.cons (.cst (.int 10)) (.cons (.cst (.int 64)) (.cons (.cst (.int 7)) .nil))))))) .nil))) .nil)))) .skip)))
def tb_law_drawn_fraction : Tb := ⟨[((Str.ofString "_law_take"), 2, sp_law_take), ((Str.ofString "_law_over"), 2, sp_law_over), ((Str.ofString "_law_some"), 2, sp_law_some)], []⟩
theorem tbm_law_drawn_fraction : tb_law_drawn_fraction.Mono := Tb.mono_of fun q hq => by
  simp only [tb_law_drawn_fraction, List.mem_cons, List.not_mem_nil, or_false] at hq
  rcases hq with rfl | rfl | rfl
  · exact mono_law_take
  · exact mono_law_over
  · exact mono_law_some
def sp_law_drawn_fraction : Sem := fun vs g Q => match vs, g with
  | [.gm 0], xs :: gs => ∃ C, (BagAt C xs ∧ C < 2 ^ 61) ∧ ∀ p xs', Can p → Bd 210 p.1 → Bd 210 p.2 → BagAt (C + 3) xs' → Q (.d (dF p)) (xs' :: gs)
  | _, _ => False
theorem mono_law_drawn_fraction : SemMono sp_law_drawn_fraction := by
  unfold sp_law_drawn_fraction
  intro vs g Q Q' h q
  revert q
  split
  · rintro ⟨C, a, b⟩
    exact ⟨C, a, fun v xs' h0 h1 h2 h3 => h _ _ (b v xs' h0 h1 h2 h3)⟩
  · exact fun q => q.elim
theorem pure_law_drawn_fraction : ∀ vs g Q, sp_law_drawn_fraction vs g Q → semF tb_law_drawn_fraction 2 b_law_drawn_fraction vs g Q := by
  intro vs g Q h
  unfold sp_law_drawn_fraction at h
  split at h
  · rename_i xs gs
    obtain ⟨C, ⟨hb, hC⟩, h⟩ := h
    have fin : ∀ (n d : Int) xs', d ≠ 0 → Bd 210 n → Bd 210 d → BagAt (C + 3) xs' → (d ≠ 0 ∧ Bd 8000 d) ∧ Q (.d (dF (nrm n d))) (xs' :: gs) := fun n d xs' h0 h1 h2 h3 =>
      ⟨⟨h0, h2.up (by decide)⟩, h _ xs' (nrm_can h0) h1.nrm1 h2.nrm2 h3⟩
    have ten : ((10 : Int) ^ Int.toNat 60) = 1000000000000000000000000000000000000000000000000000000000000 := by decide
    have b60 : ∀ v : Int, 0 ≤ v → v < (10 : Int) ^ Int.toNat 60 → Bd 200 v := fun v h0 h1 => by
      unfold Bd
      rw [ten] at h1
      omega
    have b59 : Bd 200 ((10 : Int) ^ Int.toNat 59) := by
      rw [show ((10 : Int) ^ Int.toNat 59) = 100000000000000000000000000000000000000000000000000000000000 by decide]
      unfold Bd
      omega
    walk_at "vi"
    refine ⟨C, ⟨hb, by omega, by decide, Bd.up (k := 64) (by walk_at "bd") (by decide)⟩, fun v1 x1 h10 h11 hb1 => ?_⟩
    walk_at "vi"
    · have mpos : (0 : Int) < (10 : Int) ^ Int.toNat 60 := by rw [ten]; decide
      have mbd : Bd 8000 ((10 : Int) ^ Int.toNat 60) := by rw [ten]; unfold Bd; omega
      have mk : ∀ v w : Int, Bd 200 v → 0 ≤ w → Bd 200 w → ∀ xs', BagAt (C + 3) xs' → (1 + w ≠ 0 ∧ Bd 8000 (1 + w)) ∧ Q (.d (dF (nrm (v - 5 * 10 ^ Int.toNat 59) (1 + w)))) (xs' :: gs) := fun v w h1 h2 h3 xs' h4 =>
        fin _ _ xs' (by omega) (by
          have e : (5 * 10 ^ Int.toNat 59 : Int) = 500000000000000000000000000000000000000000000000000000000000 := by decide
          rw [e]
          exact (h1.sub (l := 200) (by unfold Bd; omega)).up (by decide)) (((Bd.lit64 1 (by omega)).add h3).up (by decide)) h4
      refine ⟨C + 1, ⟨hb1, by omega, mpos, mbd⟩, fun v2 x2 h20 h21 hb2 => ?_⟩
      walk_at "vi"
      refine ⟨C + 2, ⟨hb2, by omega, mpos, mbd⟩, fun v3 x3 h30 h31 hb3 => ?_⟩
      exact mk v2 v3 (b60 _ h20 h21) h30 (b60 _ h30 h31) x3 hb3
    · refine ⟨C + 1, ⟨hb1, by omega, by decide, Bd.up (k := 64) (by walk_at "bd") (by decide)⟩, fun v2 x2 h20 h21 hb2 => ?_⟩
      have hv2 : Bd 64 v2 := by unfold Bd; omega
      have z := fin (2 * v2 - 39) 2 x2 (by decide) (by unfold Bd; omega) (by unfold Bd; omega) (hb2.up (by omega))
      have z1 := z.1
      walk_at "vi"
      exact z.2
    · refine ⟨C + 1, ⟨hb1, by omega, by simp, by decide⟩, fun y2 x2 hy2 hb2 => ?_⟩
      obtain ⟨n, rfl, hn⟩ : ∃ n : Int, y2 = .int n ∧ Bd 64 n := by
        simp only [List.mem_cons, List.not_mem_nil, or_false] at hy2
        rcases hy2 with rfl | rfl | rfl | rfl | rfl | rfl | rfl | rfl <;> exact ⟨_, rfl, by unfold Bd; decide⟩
      walk_at "vi"
      refine ⟨C + 2, ⟨hb2, by omega, by simp, by decide⟩, fun y3 x3 hy3 hb3 => ?_⟩
      obtain ⟨d, rfl, hd, hd0⟩ : ∃ n : Int, y3 = .int n ∧ Bd 64 n ∧ n ≠ 0 := by
        simp only [List.mem_cons, List.not_mem_nil, or_false] at hy3
        rcases hy3 with rfl | rfl | rfl | rfl | rfl | rfl <;> exact ⟨_, rfl, by unfold Bd; decide, by decide⟩
      exact fin n d x3 hd0 (hn.up (by decide)) (hd.up (by decide)) hb3
  · exact h.elim
/-! _law_due_integer -/
def b_law_due_integer : IS := .seq (.asg (.var 2) (.bin .fdiv (.ixc (.var 1) 0) (.ixc (.var 1) 1))) (.seq (.ifs (.cmp .eq (.ixc (.var 1) 1) (.cst (.int 1))) (.seq (.ret (.var 2)) .skip) (.skip)) (.seq (.asg (.var 3) (.bin .mul (.cst (.int 2)) (.bin .sub (.ixc (.var 1) 0) (.bin .mul (.var 2) (.ixc (.var 1) 1))))) (.seq (.ifs (.cmp .isin (.var 0) (.tup (.cons (.cst (.str (Str.ofString "up"))) (.cons (.cst (.str (Str.ofString "down"))) .nil)))) (.seq (.ret (.bin .add (.var 2) (.blt .int 0 (.cons (.cmp .eq (.var 0) (.cst (.str (Str.ofString "up")))) .nil)))) .skip) (.skip)) (.seq (.ifs (.cmp .eq (.var 0) (.cst (.str (Str.ofString "zero")))) (.seq (.ret (.bin .add (.var 2) (.blt .int 0 (.cons (.cmp .lt (.ixc (.var 1) 0) (.cst (.int 0))) .nil)))) .skip) (.skip)) (.seq (.ifs (.cmp .ne (.var 3) (.ixc (.var 1) 1)) (.seq (.ret (.bin .add (.var 2) (.blt .int 0 (.cons (.cmp .gt (.var 3) (.ixc (.var 1) 1)) .nil)))) .skip) (.skip)) (.seq (.ifs (.cmp .eq (.var 0) (.cst (.str (Str.ofString "away")))) (.seq (.ret (.bin .add (.var 2) (.blt .int 0 (.cons (.cmp .gt (.ixc (.var 1) 0) (.cst (.int 0))) .nil)))) .skip) (.skip)) (.seq (.ret (.bin .add (.var 2) (.blt .int 0 (.cons (.cmp .eq (.bin .mod (.blt .int 0 (.cons (.var 2) .nil)) (.cst (.int 2))) (.cst (.int 1))) .nil)))) .skip)))))))
def tb_law_due_integer : Tb := ⟨[], []⟩
theorem tbm_law_due_integer : tb_law_due_integer.Mono := Tb.mono_of fun q hq => by
  simp only [tb_law_due_integer, List.mem_cons, List.not_mem_nil, or_false] at hq
def sp_law_due_integer : Sem := fun vs g Q => match vs with
  | [.d (.str way), .d (.tuple [.int n, .int d])] => (way ∈ ways5 ∧ Can (n, d) ∧ Bd 8000 n ∧ Bd 8000 d) ∧ Q (.d (.int (near way n d (n.fdiv d) (n - n.fdiv d * d)))) g
  | _ => False
theorem mono_law_due_integer : SemMono sp_law_due_integer := by
  unfold sp_law_due_integer
  walk_at "mono"
theorem pure_law_due_integer : ∀ vs g Q, sp_law_due_integer vs g Q → semF tb_law_due_integer 4 b_law_due_integer vs g Q := by
  intro vs g Q h
  unfold sp_law_due_integer at h
  split at h
  · rename_i way n d
    obtain ⟨⟨hw, can, hbn, hbd⟩, h⟩ := h
    have hd : 0 < d := can.pos
    obtain ⟨q, r, hq, hn, h0, h1⟩ := fdiv_parts (n := n) hd
    obtain ⟨s1, s2⟩ := sign_parts hd hn h0 h1
    have hr : n - n.fdiv d * d = r := by rw [hq]; omega
    have hr0 : r = 0 → d = 1 := fun e => by
      have hg : Int.gcd n d = 1 := can.cop
      have : d ∣ n := ⟨q, by rw [hn, e, Int.add_zero, Int.mul_comm]⟩
      have h2 : d.natAbs ∣ Int.gcd n d := Nat.dvd_gcd (Int.natAbs_dvd_natAbs.mpr this) (Nat.dvd_refl _)
      rw [hg] at h2
      have := Nat.dvd_one.mp h2
      omega
    have hd1 : d = 1 → r = 0 := fun e => by omega
    have hn0 : n = 0 → r = 0 := fun e => by
      have hg : Int.gcd n d = 1 := can.cop
      rw [e, Int.gcd_zero_left] at hg
      omega
    rw [hr, hq] at h
    have dv : d ≠ 0 ∧ d.natAbs.log2 < 9000 := hbd.divOk (by omega) (by decide)
    have x1 : ("down" : Str) ≠ "up" := by decide
    have x2 : ("down" : Str) ≠ "zero" := by decide
    have x3 : ("up" : Str) ≠ "zero" := by decide
    have x4 : ("even" : Str) ≠ "zero" := by decide
    have x5 : ("even" : Str) ≠ "up" := by decide
    have x6 : ("even" : Str) ≠ "down" := by decide
    have x7 : ("even" : Str) ≠ "away" := by decide
    have x8 : ("away" : Str) ≠ "up" := by decide
    have x9 : ("away" : Str) ≠ "down" := by decide
    have x10 : ("away" : Str) ≠ "zero" := by decide
    have hw' : way = "even" ∨ way = "away" ∨ way = "up" ∨ way = "down" ∨ way = "zero" := by
      simpa [ways5] using hw
    have b2 : Bd 64 (2 : Int) := Bd.lit64 2 (by omega)
    walk_at "vi"
    all_goals refine Eq.mp (congrArg (fun z : Int => Q (.d (.int z)) g) ?_) h
    all_goals unfold near
    all_goals try simp only [eqv_str, eqv_int, decide_eq_true_eq]
    all_goals grind
  · exact h.elim
/-! _law_are_two_right -/
def b_law_are_two_right : IS := .seq (.asg (.var 2) (.lst 0 (.cons (.call 0 (.cons (.var 0) (.cons (.var 1) .nil))) (.cons (.call 1 (.cons (.var 0) (.cons (.var 1) .nil))) (.cons (.call 2 (.cons (.var 0) (.cons (.var 1) .nil))) (.cons (.call 3 (.cons (.var 0) (.cons (.var 1) .nil))) (.cons (.call 4 (.cons (.var 0) .nil)) .nil))))))) (.seq (.asg (.var 3) (.lst 0 (.cons (.call 5 (.cons (.var 0) (.cons (.var 1) .nil))) (.cons (.call 6 (.cons (.var 0) (.cons (.var 1) .nil))) (.cons (.call 7 (.cons (.var 0) (.cons (.var 1) .nil))) (.cons (.call 8 (.cons (.var 0) (.cons (.var 1) .nil))) .nil)))))) (.seq (.ifs (.oo (.nt (.call 9 (.cons (.var 2) (.cons (.bin .add (.var 3) (.lst 0 (.cons (.call 10 (.cons (.var 0) .nil)) .nil))) .nil)))) (.nt (.call 9 (.cons (.call 1 (.cons (.call 0 (.cons (.var 0) (.cons (.var 1) .nil))) (.cons (.var 1) .nil))) (.cons (.var 0) .nil))))) (.seq (.ret (.cst (.bool false))) .skip) (.skip)) (.seq (.ifs (.cmp .ne (.call 3 (.cons (.call 1 (.cons (.var 0) (.cons (.var 1) .nil))) (.cons (.tup (.cons (.cst (.int 0)) (.cons (.cst (.int 1)) .nil))) .nil))) (.ixc (.var 2) 3)) (.seq (.ret (.cst (.bool false))) .skip) (.skip)) (.seq (.ifs (.cmp .eq (.ixc (.var 1) 0) (.cst (.int 0))) (.seq (.ret (.cst (.bool true))) .skip) (.skip)) (.seq (.ret (.call 9 (.cons (.lst 0 (.cons (.call 11 (.cons (.var 0) (.cons (.var 1) .nil))) (.cons (.call 2 (.cons (.call 11 (.cons (.var 0) (.cons (.var 1) .nil))) (.cons (.var 1) .nil))) .nil))) (.cons (.lst 0 (.cons (.call 12 (.cons (.var 0) (.cons (.var 1) .nil))) (.cons (.var 0) .nil))) .nil)))) .skip)))))
def tb_law_are_two_right : Tb := ⟨[((Str.ofString "added"), 2, sp_added), ((Str.ofString "lessened"), 2, sp_lessened), ((Str.ofString "times"), 2, sp_times), ((Str.ofString "compared"), 2, sp_compared), ((Str.ofString "size_of"), 1, sp_size_of), ((Str.ofString "_law_added"), 2, sp_law_added), ((Str.ofString "_law_lessened"), 2, sp_law_lessened), ((Str.ofString "_law_multiplied"), 2, sp_law_multiplied), ((Str.ofString "_law_compared"), 2, sp_law_compared), ((Str.ofString "_law_alike"), 2, sp_law_alike), ((Str.ofString "_law_sized"), 1, sp_law_sized), ((Str.ofString "over"), 2, sp_over), ((Str.ofString "_law_divided"), 2, sp_law_divided)], []⟩
theorem tbm_law_are_two_right : tb_law_are_two_right.Mono := Tb.mono_of fun q hq => by
  simp only [tb_law_are_two_right, List.mem_cons, List.not_mem_nil, or_false] at hq
  rcases hq with rfl | rfl | rfl | rfl | rfl | rfl | rfl | rfl | rfl | rfl | rfl | rfl | rfl
  · exact mono_added
  · exact mono_lessened
  · exact mono_times
  · exact mono_compared
  · exact mono_size_of
  · exact mono_law_added
  · exact mono_law_lessened
  · exact mono_law_multiplied
  · exact mono_law_compared
  · exact mono_law_alike
  · exact mono_law_sized
  · exact mono_over
  · exact mono_law_divided
def sp_law_are_two_right : Sem := fun vs g Q => match vs with
  | [.d (.tuple [.int n1, .int d1]), .d (.tuple [.int n2, .int d2])] => (Fra 210 (n1, d1) ∧ Fra 210 (n2, d2)) ∧ Q (.d (.bool true)) g
  | _ => False
theorem mono_law_are_two_right : SemMono sp_law_are_two_right := by
  unfold sp_law_are_two_right
  walk_at "mono"
theorem pure_law_are_two_right : ∀ vs g Q, sp_law_are_two_right vs g Q → semF tb_law_are_two_right 4 b_law_are_two_right vs g Q := by
  intro vs g Q h
  unfold sp_law_are_two_right at h
  split at h
  · rename_i n1 d1 n2 d2
    obtain ⟨⟨hp, hq⟩, h⟩ := h
    have pb1 : Bd 210 n1 := hp.b1
    have pb2 : Bd 210 d1 := hp.b2
    have qb1 : Bd 210 n2 := hq.b1
    have qb2 : Bd 210 d2 := hq.b2
    have pp : 0 < d1 := hp.can.pos
    have qp : 0 < d2 := hq.can.pos
    have p0 : d1 ≠ 0 := by omega
    have q0 : d2 ≠ 0 := by omega
    have one : Bd 64 (1 : Int) := Bd.lit64 1 (by omega)
    have sg := sgn_sub hp.can hq.can
    have sa := sub_add hp.can hq.can
    walk_at "vi"
    · rename_i hh
      exfalso
      apply hh
      have s1 := sg.1
      have s2 := sg.2
      simp only [subP] at s1 s2
      simp only [Int.zero_mul, Int.mul_one, decide_eq_true_eq]
      simp only [s1, s2]
    · exact h
    · exact h
    · rename_i hn
      have md := mul_div hp.can hq.can hn
      refine ⟨?_, by walk_at "rep"⟩
      show PyData.list [_, dF (mulP (divP (n1, d1) (n2, d2)) (n2, d2))] = _
      rw [md]
      rfl
    · refine ⟨?_, by walk_at "rep"⟩
      show dF (subP (addP (n1, d1) (n2, d2)) (n2, d2)) = _
      rw [sa]
      rfl
    · exact ⟨rfl, by walk_at "rep"⟩
  · exact h.elim
/-! _law_is_one_right -/
def b_law_is_one_right : IS := .seq (.asg (.tup (.cons (.var 4) (.cons (.var 5) .nil))) (.tup (.cons (.call 0 (.cons (.var 1) .nil)) (.cons (.call 1 (.cons (.var 1) .nil)) .nil)))) (.seq (.ifs (.nt (.call 2 (.cons (.lst 0 (.cons (.var 4) (.cons (.var 5) .nil))) (.cons (.lst 0 (.cons (.bin .fdiv (.ixc (.var 1) 0) (.ixc (.var 1) 1)) (.cons (.neg (.bin .fdiv (.neg (.ixc (.var 1) 0)) (.ixc (.var 1) 1))) .nil))) .nil)))) (.seq (.ret (.cst (.bool false))) .skip) (.skip)) (.seq (.ifs (.nt (.cmp2 .le .lt (.bin .mul (.var 4) (.ixc (.var 1) 1)) (.ixc (.var 1) 0) (.bin .mul (.bin .add (.var 4) (.cst (.int 1))) (.ixc (.var 1) 1)))) (.seq (.ret (.cst (.bool false))) .skip) (.skip)) (.seq (.asg (.var 2) (.cmpr 0 [6] (.var 6) (.call 3 (.nil)) (.nil) (.call 4 (.cons (.var 6) (.cons (.var 1) .nil))))) (.seq (.ifs (.nt (.call 2 (.cons (.var 2) (.cons (.cmpr 0 [6] (.var 6) (.call 3 (.nil)) (.nil) (.call 5 (.cons (.var 6) (.cons (.var 1) .nil)))) .nil)))) (.seq (.ret (.cst (.bool false))) .skip) (.skip)) (.seq (.asg (.var 3) (.call 6 (.cons (.var 0) (.cons (.lst 0 (.cons (.cst (.int 1)) (.cons (.neg (.cst (.int 1))) (.cons (.cst (.int 6)) (.cons (.neg (.cst (.int 35))) (.cons (.cst (.int 1000)) .nil)))))) .nil)))) (.seq (.ret (.call 2 (.cons (.call 7 (.cons (.bin .mul (.ixc (.var 1) 0) (.var 3)) (.cons (.bin .mul (.ixc (.var 1) 1) (.var 3)) .nil))) (.cons (.var 1) .nil)))) .skip))))))
def tb_law_is_one_right : Tb := ⟨[((Str.ofString "floor_of"), 1, sp_floor_of), ((Str.ofString "ceiling_of"), 1, sp_ceiling_of), ((Str.ofString "_law_alike"), 2, sp_law_alike), ((Str.ofString "_law_ways"), 0, sp_law_ways), ((Str.ofString "nearest_integer"), 2, sp_nearest_integer), ((Str.ofString "_law_due_integer"), 2, sp_law_due_integer), ((Str.ofString "_law_some"), 2, sp_law_some), ((Str.ofString "reduced"), 2, sp_reduced)], []⟩
theorem tbm_law_is_one_right : tb_law_is_one_right.Mono := Tb.mono_of fun q hq => by
  simp only [tb_law_is_one_right, List.mem_cons, List.not_mem_nil, or_false] at hq
  rcases hq with rfl | rfl | rfl | rfl | rfl | rfl | rfl | rfl
  · exact mono_floor_of
  · exact mono_ceiling_of
  · exact mono_law_alike
  · exact mono_law_ways
  · exact mono_nearest_integer
  · exact mono_law_due_integer
  · exact mono_law_some
  · exact mono_reduced
def sp_law_is_one_right : Sem := fun vs g Q => match vs, g with
  | [.gm 0, .d (.tuple [.int n, .int d])], xs :: gs => ∃ C, (BagAt C xs ∧ C < 2 ^ 61 ∧ Fra 210 (n, d)) ∧ ∀ xs', BagAt (C + 1) xs' → Q (.d (.bool true)) (xs' :: gs)
  | _, _ => False
theorem mono_law_is_one_right : SemMono sp_law_is_one_right := by
  unfold sp_law_is_one_right
  intro vs g Q Q' h q
  revert q
  split
  · rintro ⟨C, a, b⟩
    exact ⟨C, a, fun xs' h0 => h _ _ (b xs' h0)⟩
  · exact fun q => q.elim
theorem pure_law_is_one_right : ∀ vs g Q, sp_law_is_one_right vs g Q → semF tb_law_is_one_right 7 b_law_is_one_right vs g Q := by
  intro vs g Q h
  unfold sp_law_is_one_right at h
  split at h
  · rename_i n d xs gs
    obtain ⟨C, ⟨hb, hC, hp⟩, h⟩ := h
    have pb1 : Bd 210 n := hp.b1
    have pb2 : Bd 210 d := hp.b2
    have pp : 0 < d := hp.can.pos
    have p0 : d ≠ 0 := by omega
    have one : Bd 64 (1 : Int) := Bd.lit64 1 (by omega)
    obtain ⟨q, r, hq, hn, h0, h1⟩ := fdiv_parts (n := n) pp
    have hc := ceil_parts pp hn h0 h1
    have near1 : ∀ way : Str, way ∈ ways5 → way ∈ ways5 ∧ 0 < d ∧ Bd 8000 n ∧ Bd 8000 d := fun way hw => ⟨hw, pp, pb1.up (by omega), pb2.up (by omega)⟩
    have near2 : ∀ way : Str, way ∈ ways5 → way ∈ ways5 ∧ Can (n, d) ∧ Bd 8000 n ∧ Bd 8000 d := fun way hw => ⟨hw, hp.can, pb1.up (by omega), pb2.up (by omega)⟩
    have nb : ∀ way : Str, Bd 213 (near way n d (n.fdiv d) (n - n.fdiv d * d)) := fun way => by
      have b0 : Bd 210 (n.fdiv d) := pb1.fdiv
      have key : (near way n d (n.fdiv d) (n - n.fdiv d * d)).natAbs ≤ (n.fdiv d).natAbs + 1 := by
        unfold near
        (repeat' split) <;> omega
      unfold Bd at *
      omega
    have w1 : ("even" : Str) ∈ ways5 := by decide +kernel
    have w2 : ("away" : Str) ∈ ways5 := by decide +kernel
    have w3 : ("up" : Str) ∈ ways5 := by decide +kernel
    have w4 : ("down" : Str) ∈ ways5 := by decide +kernel
    have w5 : ("zero" : Str) ∈ ways5 := by decide +kernel
    have n1 := near1 _ w1
    have n2 := near1 _ w2
    have n3 := near1 _ w3
    have n4 := near1 _ w4
    have n5 := near1 _ w5
    have m1 := near2 _ w1
    have m2 := near2 _ w2
    have m3 := near2 _ w3
    have m4 := near2 _ w4
    have m5 := near2 _ w5
    have u1 := nb "even"
    have u2 := nb "away"
    have u3 := nb "up"
    have u4 := nb "down"
    have u5 := nb "zero"
    walk_at "vi"
    · rename_i hh
      exfalso
      rw [hq, Int.add_mul] at hh
      omega
    · refine ⟨C, ⟨hb, by omega, by simp, by decide⟩, fun y xs' hy hb' => ?_⟩
      obtain ⟨k, rfl, hk, hk0⟩ : ∃ k : Int, y = .int k ∧ Bd 64 k ∧ k ≠ 0 := by
        simp only [List.mem_cons, List.not_mem_nil, or_false] at hy
        rcases hy with rfl | rfl | rfl | rfl | rfl <;> exact ⟨_, rfl, by unfold Bd; decide, by decide⟩
      have dk := nrm_scale hp.can hk0
      walk_at "vi"
      · exact h xs' hb'
      · refine ⟨?_, by walk_at "rep"⟩
        show dF (nrm ((n, d).1 * k) ((n, d).2 * k)) = _
        rw [dk]
        rfl
    · refine ⟨rfl, ?_⟩
      show RepOk (.list [_, _, _, _, _])
      walk_at "rep"
    · rename_i hh hx
      exfalso
      rw [hq] at hh
      omega
    · exact ⟨rfl, by walk_at "rep"⟩
  · exact h.elim
/-! law -/
def b_law : IS := .seq (.asg (.var 1) (.call 0 (.cons (.var 0) .nil))) (.seq (.asg (.var 2) (.cmpr 0 [9] (.var 9) (.rng (.cons (.cst (.int 5)) .nil)) (.nil) (.call 1 (.cons (.var 1) .nil)))) (.seq (.fr (.var 3) (.var 2) (.seq (.ifs (.oo (.nt (.call 2 (.cons (.var 1) (.cons (.var 3) .nil)))) (.nt (.call 3 (.cons (.var 3) (.cons (.call 4 (.cons (.var 1) (.cons (.bin .add (.var 2) (.lst 0 (.cons (.tup (.cons (.cst (.int 0)) (.cons (.cst (.int 1)) .nil))) (.cons (.var 3) .nil)))) .nil))) .nil))))) (.seq (.ret (.cst (.bool false))) .skip) (.skip)) .skip)) (.seq (.asg (.tup (.cons (.var 5) (.cons (.var 6) .nil))) (.tup (.cons (.blt .repr 0 (.cons (.var 2) .nil)) (.cons (.tup (.cons (.cst (.int 0)) (.cons (.cst (.int 1)) .nil))) .nil)))) (.seq (.fr (.var 3) (.var 2) (.seq (.asg (.var 6) (.call 5 (.cons (.var 6) (.cons (.var 3) .nil)))) .skip)) (.seq (.asg (.var 4) (.lst 0 (.cons (.call 6 (.cons (.var 2) .nil)) (.cons (.call 6 (.cons (.blt .tuple 0 (.cons (.var 2) .nil)) .nil)) (.cons (.call 6 (.cons (.lst 0 (.nil)) .nil)) (.cons (.call 6 (.cons (.sl 0 (.var 2) (.nil) (.cst (.int 1))) .nil)) (.cons (.call 6 (.cons (.bin .mul (.var 2) (.cst (.int 4))) .nil)) .nil))))))) (.seq (.ifs (.oo (.nt (.call 7 (.cons (.var 4) (.cons (.lst 0 (.cons (.var 6) (.cons (.var 6) (.cons (.tup (.cons (.cst (.int 0)) (.cons (.cst (.int 1)) .nil))) (.cons (.ixc (.var 2) 0) (.cons (.call 8 (.cons (.var 6) (.cons (.tup (.cons (.cst (.int 4)) (.cons (.cst (.int 1)) .nil))) .nil))) .nil)))))) .nil)))) (.cmp .ne (.blt .repr 0 (.cons (.var 2) .nil)) (.var 5))) (.seq (.ret (.cst (.bool false))) .skip) (.skip)) (.seq (.asg (.tup (.cons (.var 7) (.cons (.var 8) .nil))) (.tup (.cons (.call 4 (.cons (.var 1) (.cons (.lst 0 (.cons (.cst (.int 2)) (.cons (.cst (.int 10)) (.cons (.cst (.int 1)) (.cons (.cst (.int 36)) (.cons (.cst (.int 3)) .nil)))))) .nil))) (.cons (.call 4 (.cons (.var 1) (.cons (.lst 0 (.cons (.cst (.int 0)) (.cons (.cst (.int 1)) (.cons (.neg (.cst (.int 1))) (.cons (.cst (.int 5)) (.cons (.neg (.cst (.int 7))) (.cons (.cst (.int 40)) (.cons (.neg (.cst (.int 30))) .nil)))))))) .nil))) .nil)))) (.seq (.asg (.var 4) (.lst 0 (.cons (.call 9 (.cons (.var 7) (.cons (.var 8) .nil))) (.cons (.call 10 (.cons (.call 9 (.cons (.var 7) (.cons (.var 8) .nil))) (.cons (.call 9 (.cons (.var 7) (.cons (.neg (.var 8)) .nil))) .nil))) .nil)))) (.seq (.ret (.call 7 (.cons (.var 4) (.cons (.lst 0 (.cons (.call 11 (.cons (.var 7) (.cons (.var 8) .nil))) (.cons (.tup (.cons (.cst (.int 1)) (.cons (.cst (.int 1)) .nil))) .nil))) .nil)))) .skip)))))))))
def tb_law : Tb := ⟨[((Str.ofString "_law_bag"), 1, sp_law_bag), ((Str.ofString "_law_drawn_fraction"), 1, sp_law_drawn_fraction), ((Str.ofString "_law_is_one_right"), 2, sp_law_is_one_right), ((Str.ofString "_law_are_two_right"), 2, sp_law_are_two_right), ((Str.ofString "_law_some"), 2, sp_law_some), ((Str.ofString "_law_added"), 2, sp_law_added), ((Str.ofString "total_of"), 1, sp_total_of), ((Str.ofString "_law_alike"), 2, sp_law_alike), ((Str.ofString "_law_multiplied"), 2, sp_law_multiplied), ((Str.ofString "power_of"), 2, sp_power_of), ((Str.ofString "times"), 2, sp_times), ((Str.ofString "_law_power"), 2, sp_law_power)], []⟩
theorem tbm_law : tb_law.Mono := Tb.mono_of fun q hq => by
  simp only [tb_law, List.mem_cons, List.not_mem_nil, or_false] at hq
  rcases hq with rfl | rfl | rfl | rfl | rfl | rfl | rfl | rfl | rfl | rfl | rfl | rfl
  · exact mono_law_bag
  · exact mono_law_drawn_fraction
  · exact mono_law_is_one_right
  · exact mono_law_are_two_right
  · exact mono_law_some
  · exact mono_law_added
  · exact mono_total_of
  · exact mono_law_alike
  · exact mono_law_multiplied
  · exact mono_power_of
  · exact mono_times
  · exact mono_law_power
def sp_law : Sem := semF tb_law 10 b_law
theorem mono_law : SemMono sp_law := semF_mono tbm_law _ _
theorem pure_law : ∀ vs g Q, sp_law vs g Q → semF tb_law 10 b_law vs g Q := fun _ _ _ q => q
theorem plain_law (ns : List Int) (hlen : ns.length ≤ 63) : sp_law [.sc (ns.map PyData.int)] [] fun ev _ => ev = .d (.bool true) := by
  unfold sp_law
  walk_at "w"
  refine ⟨⟨ns, rfl⟩, fun bag hb => ?_⟩
  walk_at "w"
  refine ⟨⟨by decide, by decide⟩, ?_⟩
  walk_at "w"
  refine ⟨by decide, ?_⟩
  refine loopC_inv tbm_law (fun i st acc => ∃ x l, st = ⟨[x], []⟩ ∧ BagAt (3 * i) x ∧ acc = l.map dF ∧ l.length = i ∧ ∀ p ∈ l, Fra 210 p) ?_ ?_ ⟨bag, [], rfl, hb, rfl, rfl, by simp⟩
  · rintro i y _ _ hy ⟨x, l, rfl, hb, rfl, hl, hf⟩
    have hi : i < 5 := by
      have := (List.getElem?_eq_some_iff.mp hy).1
      simpa [upto] using this
    walk_at "vi"
    refine ⟨3 * i, ⟨hb, by omega⟩, fun p x' c pa pb hb' => ?_⟩
    refine ⟨x', l ++ [p], rfl, hb', by simp, by simp [hl], fun q hq => ?_⟩
    rcases List.mem_append.mp hq with h | h
    · exact hf q h
    · rw [List.mem_singleton.mp h]
      exact ⟨c, pa, pb⟩
  rintro _ _ ⟨x, l, rfl, hb, rfl, hl, hf⟩
  have hl5 : l.length = 5 := by simpa [upto] using hl
  clear hl
  walk_at "vi"
  have f0 : Fra 210 (0, 1) := fr01.up (by omega)
  have hb : BagAt 15 x := hb
  refine loopF_inv tbm_law (fun i env st => ∃ x z, env = [some (.sc (ns.map PyData.int)), some (.gm 0), some (.d (.list (l.map dF))), z, none, none, none, none, none, none] ∧ st = ⟨[x], []⟩ ∧ BagAt (15 + 2 * i) x) ?_ ?_ ⟨x, none, rfl, rfl, hb⟩
  · rintro i y _ _ hy ⟨x, z, rfl, rfl, hb⟩
    rw [List.getElem?_map] at hy
    cases hq : l[i]? with
    | none => rw [hq] at hy; cases hy
    | some p =>
      rw [hq] at hy
      cases hy
      have hi : i < 5 := by
        have := (List.getElem?_eq_some_iff.mp hq).1
        omega
      have fp := hf p (List.mem_of_getElem? hq)
      walk_at "vi"
      refine ⟨15 + 2 * i, ⟨hb, by omega, fp⟩, fun x' hb' => ?_⟩
      walk_at "vi"
      refine ⟨15 + 2 * i + 1, ⟨hb', by omega, by simp, by simp [hl5]⟩, fun y x'' hy hb'' => ?_⟩
      obtain ⟨q, rfl, fq⟩ : ∃ q, y = dF q ∧ Fra 210 q := by
        simp only [List.mem_append, List.mem_cons, List.not_mem_nil, or_false, List.mem_map] at hy
        rcases hy with ⟨q, hq, rfl⟩ | rfl | rfl
        · exact ⟨q, rfl, hf q hq⟩
        · exact ⟨(0, 1), rfl, f0⟩
        · exact ⟨p, rfl, fp⟩
      have both : Fra 210 (p.1, p.2) ∧ Fra 210 (q.1, q.2) := ⟨fp, fq⟩
      walk_at "vi"
      · exact ⟨x'', some (.d (dF p)), rfl, rfl, hb''.up (by omega)⟩
      · rw [List.length_map, hl5]
        show 5 + 2 ≤ 1000000
        omega
  rintro _ _ ⟨x, z, rfl, rfl, hb⟩
  rw [List.length_map, hl5] at hb
  have hrep : RepOk (.list (l.map dF)) := by
    refine Fit.rep (Fit.lst (k := 2) (w := 9000) fun d hd => ?_) (by omega) (by rw [List.length_map, hl5]; omega)
    obtain ⟨p, hp, rfl⟩ := List.mem_map.mp hd
    exact Fit.pair (hf p hp).b1 (hf p hp).b2 (by omega) (by omega)
  walk_at "vi"
  refine loopF_inv tbm_law (fun i env st => ∃ z, env = [some (.sc (ns.map PyData.int)), some (.gm 0), some (.d (.list (l.map dF))), z, none, some (.d (.str (PyData.list (l.map dF)).shown)), some (.d (dF (totP (l.take i)))), none, none, none] ∧ st = ⟨[x], []⟩) ?_ ?_ ⟨z, rfl, rfl⟩
  · rintro i y _ _ hy ⟨z, rfl, rfl⟩
    rw [List.getElem?_map] at hy
    cases hq : l[i]? with
    | none => rw [hq] at hy; cases hy
    | some q =>
      rw [hq] at hy
      cases hy
      have hi : i < 5 := by
        have := (List.getElem?_eq_some_iff.mp hq).1
        omega
      have fq := hf q (List.mem_of_getElem? hq)
      have ft : Fra (1 + 211 * i) (totP (l.take i)) := (Fra.tot (l.take i) (0, 1) 1 fr01 fun p hp => hf p (List.mem_of_mem_take hp)).up (by rw [List.length_take]; omega)
      have ft := ft.up (l := 5000) (by omega)
      have b1 := ft.b1
      have b2 := ft.b2
      have c1 := fq.b1
      have c2 := fq.b2
      have e : totP (l.take (i + 1)) = addP (totP (l.take i)) q := by
        unfold totP
        rw [List.take_add_one, hq, List.foldl_append]
        rfl
      generalize totP (l.take i) = t at *
      have ne : t.2 * q.2 ≠ 0 ∧ Bd 8000 (t.2 * q.2) := ⟨mul_ne ft.ne fq.ne, (b2.mul c2).up (by decide)⟩
      walk_at "vi"
      refine ⟨some (.d (dF q)), ?_, rfl⟩
      rw [e]
      rfl
  rintro _ _ ⟨z, rfl, rfl⟩
  rw [List.length_map, List.take_length]
  have ft : Fra 1100 (totP l) := (Fra.tot l (0, 1) 1 fr01 hf).up (by rw [hl5]; omega)
  obtain ⟨a, ha1, ha0, hcut⟩ : ∃ a, l.take 1 = [a] ∧ (l.map dF)[0]? = some (dF a) ∧ cutD (l.map dF) none (some 1) = ([a] : List P2).map dF := by
    match l, hl5 with
    | [a, b, c, d, e], _ => exact ⟨a, rfl, rfl, rfl⟩
  have fa : Fra 210 a := hf a (List.mem_of_mem_take (i := 1) (by rw [ha1]; exact List.mem_singleton.mpr rfl))
  have hrep4 : (List.replicate (Int.toNat 4) (l.map dF)).flatten = (l ++ (l ++ (l ++ l))).map dF := by
    show (l.map dF) ++ ((l.map dF) ++ ((l.map dF) ++ ((l.map dF) ++ []))) = _
    simp
  have hf4 : ∀ p ∈ l ++ (l ++ (l ++ l)), Fra 210 p := fun p hp => by
    simp only [List.mem_append, or_self] at hp
    exact hf p hp
  have h4 := tot_four fun q hq => (hf q hq).can
  have h1 := tot_one fa.can
  have tb1 := ft.b1
  have tb2 := ft.b2
  have t0 := ft.ne
  walk_at "vi"
  refine ⟨l, ⟨rfl, hf, by omega⟩, ?_⟩
  walk_at "vi"
  refine ⟨l, ⟨rfl, hf, by omega⟩, ?_⟩
  walk_at "vi"
  refine ⟨[], ⟨rfl, by simp, by simp⟩, ?_⟩
  walk_at "vi"
  refine ⟨[a], ⟨hcut, by simpa using fa, by simp⟩, ?_⟩
  walk_at "vi"
  · refine ⟨_, ⟨hrep4, hf4, by simp [hl5]⟩, ?_⟩
    walk_at "vi"
    rw [ha0]
    walk_at "vi"
    · refine ⟨25, ⟨hb, by omega, by simp, by simp⟩, fun y xs' hy hb' => ?_⟩
      obtain ⟨b, rfl, bp, b6⟩ : ∃ b : Int, y = .int b ∧ 0 < b ∧ Bd 6 b := by
        simp only [List.mem_cons, List.not_mem_nil, or_false] at hy
        rcases hy with rfl | rfl | rfl | rfl | rfl <;> exact ⟨_, rfl, by decide, by unfold Bd; decide⟩
      walk_at "vi"
      refine ⟨26, ⟨hb', by omega, by simp, by simp⟩, fun y xs'' hy hb'' => ?_⟩
      obtain ⟨e, rfl, e1, e2⟩ : ∃ e : Int, y = .int e ∧ -40 ≤ e ∧ e ≤ 40 := by
        simp only [List.mem_cons, List.not_mem_nil, or_false] at hy
        rcases hy with rfl | rfl | rfl | rfl | rfl | rfl | rfl <;> exact ⟨_, rfl, by decide, by decide⟩
      have pw : ∀ k : Int, 0 ≤ k → k ≤ 40 → ∃ j, Bd j b ∧ 0 ≤ k ∧ j * (4 * k.toNat + 4) ≤ 900000 := fun k h0 h1 => ⟨6, b6, h0, by omega⟩
      have pos : ∀ k : Nat, 0 < b ^ k := fun k => Int.pow_pos bp
      have pne : ∀ k : Nat, b ^ k ≠ 0 := fun k => by have := pos k; omega
      have pbd : ∀ k : Int, k ≤ 40 → Bd 300 (b ^ k.toNat) := fun k h => (b6.pow _).up (by omega)
      have bA := pbd e (by omega)
      have bB := pbd (-e) (by omega)
      have bC := pbd (- -e) (by omega)
      have nA := pne e.toNat
      have nB := pne (-e).toNat
      have nC := pne (- -e).toNat
      have inv : ∀ k : Nat, nrm 1 (b ^ k) = (1, b ^ k) := fun k => nrm_inv (pos k)
      have one : Bd 64 (1 : Int) := Bd.lit64 1 (by omega)
      walk_at "vi"
      all_goals first | exact pw _ (by omega) (by omega) | (exfalso; omega) | skip
      · rename_i h0 _ _
        have e0 : e = 0 := by omega
        subst e0
        refine ⟨?_, by walk_at "rep"⟩
        show PyData.list [_, dF (nrm _ _)] = _
        rw [nrm_11 (by simp) (by simp)]
        rfl
      · refine ⟨?_, by walk_at "rep"⟩
        simp only [inv]
        show PyData.list [_, dF (nrm _ _)] = _
        rw [nrm_11 (by rw [Int.neg_neg, Int.mul_one, Int.one_mul]) (Int.mul_ne_zero nA (by decide))]
        rfl
      · refine ⟨?_, by walk_at "rep"⟩
        simp only [inv]
        show PyData.list [_, dF (nrm _ _)] = _
        rw [nrm_11 (by rw [Int.mul_one, Int.one_mul]) (Int.mul_ne_zero (by decide) nB)]
        rfl
    · have g1 : Fit 2 9000 (dF (totP l)) := (ft.fit (by omega)).up (by omega) (by omega)
      have g2 : Fit 2 9000 (dF (totP [])) := (fr01.fit (by omega)).up (by omega) (by omega)
      have g3 : Fit 2 9000 (dF (totP [a])) := by
        rw [h1]
        exact (fa.fit (by omega)).up (by omega) (by omega)
      have g4 : Fit 2 9000 (dF (totP (l ++ (l ++ (l ++ l))))) := by
        have f4 : Fra 5000 (totP (l ++ (l ++ (l ++ l)))) := (Fra.tot _ (0, 1) 1 fr01 hf4).up (by simp [hl5])
        exact (f4.fit (by omega)).up (by omega) (by omega)
      refine ⟨?_, by walk_at "rep"⟩
      rw [h4, h1]
      rfl
  · exact ⟨by decide, by decide, by simp [hl5]⟩

end VI
namespace VI
open PySem PySem.Spec PyProof.Rows L2
def top (i : Nat) : Stmt := PySem.Challenge.pw_nearestheld_k05_whole_fractions_by_own_s.main.body.getD i (.Pass ⟨0, 0, 0, 0⟩)
def mkD (x : Str) (i : Nat) : He.DefD := ⟨(x, none), x, x, defArgs (top i), defBody (top i), defScope (top i), [], []⟩
def fnL : List He.DefD := [mkD (Str.ofString "whole_power") 2, mkD (Str.ofString "reduced") 4, mkD (Str.ofString "added") 5, mkD (Str.ofString "lessened") 6, mkD (Str.ofString "times") 7, mkD (Str.ofString "over") 8, mkD (Str.ofString "total_of") 9, mkD (Str.ofString "size_of") 10, mkD (Str.ofString "power_of") 11, mkD (Str.ofString "compared") 12, mkD (Str.ofString "floor_of") 13, mkD (Str.ofString "ceiling_of") 14, mkD (Str.ofString "nearer_integer") 15, mkD (Str.ofString "nearest_integer") 16, mkD (Str.ofString "_law_bag") 18, mkD (Str.ofString "_law_take") 19, mkD (Str.ofString "_law_some") 20, mkD (Str.ofString "_law_alike") 21, mkD (Str.ofString "_law_common") 22, mkD (Str.ofString "_law_to") 23, mkD (Str.ofString "_law_over") 24, mkD (Str.ofString "_law_added") 25, mkD (Str.ofString "_law_lessened") 26, mkD (Str.ofString "_law_multiplied") 27, mkD (Str.ofString "_law_divided") 28, mkD (Str.ofString "_law_is_below") 29, mkD (Str.ofString "_law_sized") 30, mkD (Str.ofString "_law_power") 31, mkD (Str.ofString "_law_ways") 32, mkD (Str.ofString "_law_compared") 33, mkD (Str.ofString "_law_drawn_fraction") 34, mkD (Str.ofString "_law_due_integer") 35, mkD (Str.ofString "_law_are_two_right") 36, mkD (Str.ofString "_law_is_one_right") 37, mkD (Str.ofString "law") 38]
def faL : List He.Fa := [.glo (Str.ofString "whole_power"), .glo (Str.ofString "reduced"), .glo (Str.ofString "added"), .glo (Str.ofString "lessened"), .glo (Str.ofString "times"), .glo (Str.ofString "over"), .glo (Str.ofString "total_of"), .glo (Str.ofString "size_of"), .glo (Str.ofString "power_of"), .glo (Str.ofString "compared"), .glo (Str.ofString "floor_of"), .glo (Str.ofString "ceiling_of"), .glo (Str.ofString "nearer_integer"), .glo (Str.ofString "nearest_integer"), .glo (Str.ofString "_law_bag"), .glo (Str.ofString "_law_take"), .glo (Str.ofString "_law_some"), .glo (Str.ofString "_law_alike"), .glo (Str.ofString "_law_common"), .glo (Str.ofString "_law_to"), .glo (Str.ofString "_law_over"), .glo (Str.ofString "_law_added"), .glo (Str.ofString "_law_lessened"), .glo (Str.ofString "_law_multiplied"), .glo (Str.ofString "_law_divided"), .glo (Str.ofString "_law_is_below"), .glo (Str.ofString "_law_sized"), .glo (Str.ofString "_law_power"), .glo (Str.ofString "_law_ways"), .glo (Str.ofString "_law_compared"), .glo (Str.ofString "_law_drawn_fraction"), .glo (Str.ofString "_law_due_integer"), .glo (Str.ofString "_law_are_two_right"), .glo (Str.ofString "_law_is_one_right"), .glo (Str.ofString "law")] ++ bltNames.map He.Fa.free
def exB (K : PySem.W.Frag) : Bool := He.eqO (PySem.W.nsIn K mainGlobals "gcd") (some (some (.builtin "math.gcd")))
def loose : List Str := ([Str.ofString "whole_power", Str.ofString "reduced", Str.ofString "added", Str.ofString "lessened", Str.ofString "times", Str.ofString "over", Str.ofString "total_of", Str.ofString "size_of", Str.ofString "power_of", Str.ofString "compared", Str.ofString "floor_of", Str.ofString "ceiling_of", Str.ofString "nearer_integer", Str.ofString "nearest_integer", Str.ofString "_law_bag", Str.ofString "_law_take", Str.ofString "_law_some", Str.ofString "_law_alike", Str.ofString "_law_common", Str.ofString "_law_to", Str.ofString "_law_over", Str.ofString "_law_added", Str.ofString "_law_lessened", Str.ofString "_law_multiplied", Str.ofString "_law_divided", Str.ofString "_law_is_below", Str.ofString "_law_sized", Str.ofString "_law_power", Str.ofString "_law_ways", Str.ofString "_law_compared", Str.ofString "_law_drawn_fraction", Str.ofString "_law_due_integer", Str.ofString "_law_are_two_right", Str.ofString "_law_is_one_right"] : List Str)
abbrev R : PySem.W.OpenRow := PySem.W.OpenLaw.row PySem.Challenge.rw_nearestheld_k05_whole_fractions_by_own_s
abbrev hk : PySem.W.Hook := He.hookX 4 faL fnL [] [] exB
def ob (s : PySem.W.SharedT) : He.AlX := He.obsX 4 faL fnL [] [] exB (HandSHeadRun.getT s)
theorem ob_eq (s : PySem.W.SharedT) : ob s = hk.obs s.abs := He.obsX_eq (HandSHeadRun.getT_eq s)
theorem runs (w : World) : HandSHeadRun.RunEqI R (PySem.W.view R.prog [0, 38]) hk ob 20000 loose w := by
  unfold HandSHeadRun.RunEqI
  kernel_rfl
section
variable {P : Program} {w : World} {K : PySem.W.Frag} {mg : Str → Option Value} {base h : Heap}
theorem sc_whole_power : FnScope [(Str.ofString "base"), (Str.ofString "e"), (Str.ofString "found")] [(Str.ofString "base"), (Str.ofString "e")] (defScope (top 2)) := ⟨rfl, rfl, rfl, by decide +kernel, rfl, by decide +kernel, by decide +kernel⟩
theorem ck_whole_power : (ckS b_whole_power ⟨[(Str.ofString "base"), (Str.ofString "e"), (Str.ofString "found")], defScope (top 2), fun _ => true, tb_whole_power.fn.map fun q => (q.1, q.2.1), tb_whole_power.gl.map (·.1), true⟩).ss (defBody (top 2)) = true := by decide +kernel
theorem good_whole_power (c : He.SaysD faL fnL K) (X : K.In h) (G : h.Ns mainGlobals mg) (M : ModG mg base true) : Good P w K mg base 1 (Str.ofString "whole_power") 2 sp_whole_power := by
  obtain ⟨fd, F⟩ := c.def_ 0 (d := mkD (Str.ofString "whole_power") 2) rfl
  exact def_ok (k := 0) (ps := [(Str.ofString "base"), (Str.ofString "e")]) tb_whole_power b_whole_power M AllGood.nil AllGl.nil F sc_whole_power (F.bindsN fun _ _ _ _ _ _ us hl => match us, hl with | [_, _], _ => rfl) (He.glo_ok X G (c.fact 0 (f := .glo (Str.ofString "whole_power")) rfl)) mono_whole_power pure_whole_power ck_whole_power
theorem sc_reduced : FnScope [(Str.ofString "n"), (Str.ofString "d"), (Str.ofString "common")] [(Str.ofString "n"), (Str.ofString "d")] (defScope (top 4)) := ⟨rfl, rfl, rfl, by decide +kernel, rfl, by decide +kernel, by decide +kernel⟩
theorem ck_reduced : (ckS b_reduced ⟨[(Str.ofString "n"), (Str.ofString "d"), (Str.ofString "common")], defScope (top 4), fun _ => true, tb_reduced.fn.map fun q => (q.1, q.2.1), tb_reduced.gl.map (·.1), true⟩).ss (defBody (top 4)) = true := by decide +kernel
theorem good_reduced (c : He.SaysD faL fnL K) (X : K.In h) (G : h.Ns mainGlobals mg) (M : ModG mg base true) : Good P w K mg base 1 (Str.ofString "reduced") 2 sp_reduced := by
  obtain ⟨fd, F⟩ := c.def_ 1 (d := mkD (Str.ofString "reduced") 4) rfl
  exact def_ok (k := 0) (ps := [(Str.ofString "n"), (Str.ofString "d")]) tb_reduced b_reduced M AllGood.nil AllGl.nil F sc_reduced (F.bindsN fun _ _ _ _ _ _ us hl => match us, hl with | [_, _], _ => rfl) (He.glo_ok X G (c.fact 1 (f := .glo (Str.ofString "reduced")) rfl)) mono_reduced pure_reduced ck_reduced
theorem sc_added : FnScope [(Str.ofString "one"), (Str.ofString "other")] [(Str.ofString "one"), (Str.ofString "other")] (defScope (top 5)) := ⟨rfl, rfl, rfl, by decide +kernel, rfl, by decide +kernel, by decide +kernel⟩
theorem ck_added : (ckS b_added ⟨[(Str.ofString "one"), (Str.ofString "other")], defScope (top 5), fun _ => true, tb_added.fn.map fun q => (q.1, q.2.1), tb_added.gl.map (·.1), true⟩).ss (defBody (top 5)) = true := by decide +kernel
theorem good_added (c : He.SaysD faL fnL K) (X : K.In h) (G : h.Ns mainGlobals mg) (M : ModG mg base true) : Good P w K mg base 2 (Str.ofString "added") 2 sp_added := by
  obtain ⟨fd, F⟩ := c.def_ 2 (d := mkD (Str.ofString "added") 5) rfl
  exact def_ok (k := 1) (ps := [(Str.ofString "one"), (Str.ofString "other")]) tb_added b_added M (.cons ((good_reduced c X G M).up (by decide)) AllGood.nil) AllGl.nil F sc_added (F.bindsN fun _ _ _ _ _ _ us hl => match us, hl with | [_, _], _ => rfl) (He.glo_ok X G (c.fact 2 (f := .glo (Str.ofString "added")) rfl)) mono_added pure_added ck_added
theorem sc_lessened : FnScope [(Str.ofString "one"), (Str.ofString "other")] [(Str.ofString "one"), (Str.ofString "other")] (defScope (top 6)) := ⟨rfl, rfl, rfl, by decide +kernel, rfl, by decide +kernel, by decide +kernel⟩
theorem ck_lessened : (ckS b_lessened ⟨[(Str.ofString "one"), (Str.ofString "other")], defScope (top 6), fun _ => true, tb_lessened.fn.map fun q => (q.1, q.2.1), tb_lessened.gl.map (·.1), true⟩).ss (defBody (top 6)) = true := by decide +kernel
theorem good_lessened (c : He.SaysD faL fnL K) (X : K.In h) (G : h.Ns mainGlobals mg) (M : ModG mg base true) : Good P w K mg base 2 (Str.ofString "lessened") 2 sp_lessened := by
  obtain ⟨fd, F⟩ := c.def_ 3 (d := mkD (Str.ofString "lessened") 6) rfl
  exact def_ok (k := 1) (ps := [(Str.ofString "one"), (Str.ofString "other")]) tb_lessened b_lessened M (.cons ((good_reduced c X G M).up (by decide)) AllGood.nil) AllGl.nil F sc_lessened (F.bindsN fun _ _ _ _ _ _ us hl => match us, hl with | [_, _], _ => rfl) (He.glo_ok X G (c.fact 3 (f := .glo (Str.ofString "lessened")) rfl)) mono_lessened pure_lessened ck_lessened
theorem sc_times : FnScope [(Str.ofString "one"), (Str.ofString "other")] [(Str.ofString "one"), (Str.ofString "other")] (defScope (top 7)) := ⟨rfl, rfl, rfl, by decide +kernel, rfl, by decide +kernel, by decide +kernel⟩
theorem ck_times : (ckS b_times ⟨[(Str.ofString "one"), (Str.ofString "other")], defScope (top 7), fun _ => true, tb_times.fn.map fun q => (q.1, q.2.1), tb_times.gl.map (·.1), true⟩).ss (defBody (top 7)) = true := by decide +kernel
theorem good_times (c : He.SaysD faL fnL K) (X : K.In h) (G : h.Ns mainGlobals mg) (M : ModG mg base true) : Good P w K mg base 2 (Str.ofString "times") 2 sp_times := by
  obtain ⟨fd, F⟩ := c.def_ 4 (d := mkD (Str.ofString "times") 7) rfl
  exact def_ok (k := 1) (ps := [(Str.ofString "one"), (Str.ofString "other")]) tb_times b_times M (.cons ((good_reduced c X G M).up (by decide)) AllGood.nil) AllGl.nil F sc_times (F.bindsN fun _ _ _ _ _ _ us hl => match us, hl with | [_, _], _ => rfl) (He.glo_ok X G (c.fact 4 (f := .glo (Str.ofString "times")) rfl)) mono_times pure_times ck_times
theorem sc_over : FnScope [(Str.ofString "one"), (Str.ofString "other")] [(Str.ofString "one"), (Str.ofString "other")] (defScope (top 8)) := ⟨rfl, rfl, rfl, by decide +kernel, rfl, by decide +kernel, by decide +kernel⟩
theorem ck_over : (ckS b_over ⟨[(Str.ofString "one"), (Str.ofString "other")], defScope (top 8), fun _ => true, tb_over.fn.map fun q => (q.1, q.2.1), tb_over.gl.map (·.1), true⟩).ss (defBody (top 8)) = true := by decide +kernel
theorem good_over (c : He.SaysD faL fnL K) (X : K.In h) (G : h.Ns mainGlobals mg) (M : ModG mg base true) : Good P w K mg base 2 (Str.ofString "over") 2 sp_over := by
  obtain ⟨fd, F⟩ := c.def_ 5 (d := mkD (Str.ofString "over") 8) rfl
  exact def_ok (k := 1) (ps := [(Str.ofString "one"), (Str.ofString "other")]) tb_over b_over M (.cons ((good_reduced c X G M).up (by decide)) AllGood.nil) AllGl.nil F sc_over (F.bindsN fun _ _ _ _ _ _ us hl => match us, hl with | [_, _], _ => rfl) (He.glo_ok X G (c.fact 5 (f := .glo (Str.ofString "over")) rfl)) mono_over pure_over ck_over
theorem sc_total_of : FnScope [(Str.ofString "fractions"), (Str.ofString "found"), (Str.ofString "one")] [(Str.ofString "fractions")] (defScope (top 9)) := ⟨rfl, rfl, rfl, by decide +kernel, rfl, by decide +kernel, by decide +kernel⟩
theorem ck_total_of : (ckS b_total_of ⟨[(Str.ofString "fractions"), (Str.ofString "found"), (Str.ofString "one")], defScope (top 9), fun _ => true, tb_total_of.fn.map fun q => (q.1, q.2.1), tb_total_of.gl.map (·.1), true⟩).ss (defBody (top 9)) = true := by decide +kernel
theorem good_total_of (c : He.SaysD faL fnL K) (X : K.In h) (G : h.Ns mainGlobals mg) (M : ModG mg base true) : Good P w K mg base 3 (Str.ofString "total_of") 1 sp_total_of := by
  obtain ⟨fd, F⟩ := c.def_ 6 (d := mkD (Str.ofString "total_of") 9) rfl
  exact def_ok (k := 2) (ps := [(Str.ofString "fractions")]) tb_total_of b_total_of M (.cons ((good_added c X G M).up (by decide)) AllGood.nil) AllGl.nil F sc_total_of (F.bindsN fun _ _ _ _ _ _ us hl => match us, hl with | [_], _ => rfl) (He.glo_ok X G (c.fact 6 (f := .glo (Str.ofString "total_of")) rfl)) mono_total_of pure_total_of ck_total_of
theorem sc_size_of : FnScope [(Str.ofString "one")] [(Str.ofString "one")] (defScope (top 10)) := ⟨rfl, rfl, rfl, by decide +kernel, rfl, by decide +kernel, by decide +kernel⟩
theorem ck_size_of : (ckS b_size_of ⟨[(Str.ofString "one")], defScope (top 10), fun _ => true, tb_size_of.fn.map fun q => (q.1, q.2.1), tb_size_of.gl.map (·.1), true⟩).ss (defBody (top 10)) = true := by decide +kernel
theorem good_size_of (c : He.SaysD faL fnL K) (X : K.In h) (G : h.Ns mainGlobals mg) (M : ModG mg base true) : Good P w K mg base 1 (Str.ofString "size_of") 1 sp_size_of := by
  obtain ⟨fd, F⟩ := c.def_ 7 (d := mkD (Str.ofString "size_of") 10) rfl
  exact def_ok (k := 0) (ps := [(Str.ofString "one")]) tb_size_of b_size_of M AllGood.nil AllGl.nil F sc_size_of (F.bindsN fun _ _ _ _ _ _ us hl => match us, hl with | [_], _ => rfl) (He.glo_ok X G (c.fact 7 (f := .glo (Str.ofString "size_of")) rfl)) mono_size_of pure_size_of ck_size_of
theorem sc_power_of : FnScope [(Str.ofString "base"), (Str.ofString "e")] [(Str.ofString "base"), (Str.ofString "e")] (defScope (top 11)) := ⟨rfl, rfl, rfl, by decide +kernel, rfl, by decide +kernel, by decide +kernel⟩
theorem ck_power_of : (ckS b_power_of ⟨[(Str.ofString "base"), (Str.ofString "e")], defScope (top 11), fun _ => true, tb_power_of.fn.map fun q => (q.1, q.2.1), tb_power_of.gl.map (·.1), true⟩).ss (defBody (top 11)) = true := by decide +kernel
theorem good_power_of (c : He.SaysD faL fnL K) (X : K.In h) (G : h.Ns mainGlobals mg) (M : ModG mg base true) : Good P w K mg base 2 (Str.ofString "power_of") 2 sp_power_of := by
  obtain ⟨fd, F⟩ := c.def_ 8 (d := mkD (Str.ofString "power_of") 11) rfl
  exact def_ok (k := 1) (ps := [(Str.ofString "base"), (Str.ofString "e")]) tb_power_of b_power_of M (.cons ((good_whole_power c X G M).up (by decide)) (.cons ((good_reduced c X G M).up (by decide)) AllGood.nil)) AllGl.nil F sc_power_of (F.bindsN fun _ _ _ _ _ _ us hl => match us, hl with | [_, _], _ => rfl) (He.glo_ok X G (c.fact 8 (f := .glo (Str.ofString "power_of")) rfl)) mono_power_of pure_power_of ck_power_of
theorem sc_compared : FnScope [(Str.ofString "one"), (Str.ofString "other"), (Str.ofString "mine"), (Str.ofString "its")] [(Str.ofString "one"), (Str.ofString "other")] (defScope (top 12)) := ⟨rfl, rfl, rfl, by decide +kernel, rfl, by decide +kernel, by decide +kernel⟩
theorem ck_compared : (ckS b_compared ⟨[(Str.ofString "one"), (Str.ofString "other"), (Str.ofString "mine"), (Str.ofString "its")], defScope (top 12), fun _ => true, tb_compared.fn.map fun q => (q.1, q.2.1), tb_compared.gl.map (·.1), true⟩).ss (defBody (top 12)) = true := by decide +kernel
theorem good_compared (c : He.SaysD faL fnL K) (X : K.In h) (G : h.Ns mainGlobals mg) (M : ModG mg base true) : Good P w K mg base 1 (Str.ofString "compared") 2 sp_compared := by
  obtain ⟨fd, F⟩ := c.def_ 9 (d := mkD (Str.ofString "compared") 12) rfl
  exact def_ok (k := 0) (ps := [(Str.ofString "one"), (Str.ofString "other")]) tb_compared b_compared M AllGood.nil AllGl.nil F sc_compared (F.bindsN fun _ _ _ _ _ _ us hl => match us, hl with | [_, _], _ => rfl) (He.glo_ok X G (c.fact 9 (f := .glo (Str.ofString "compared")) rfl)) mono_compared pure_compared ck_compared
theorem sc_floor_of : FnScope [(Str.ofString "one")] [(Str.ofString "one")] (defScope (top 13)) := ⟨rfl, rfl, rfl, by decide +kernel, rfl, by decide +kernel, by decide +kernel⟩
theorem ck_floor_of : (ckS b_floor_of ⟨[(Str.ofString "one")], defScope (top 13), fun _ => true, tb_floor_of.fn.map fun q => (q.1, q.2.1), tb_floor_of.gl.map (·.1), true⟩).ss (defBody (top 13)) = true := by decide +kernel
theorem good_floor_of (c : He.SaysD faL fnL K) (X : K.In h) (G : h.Ns mainGlobals mg) (M : ModG mg base true) : Good P w K mg base 1 (Str.ofString "floor_of") 1 sp_floor_of := by
  obtain ⟨fd, F⟩ := c.def_ 10 (d := mkD (Str.ofString "floor_of") 13) rfl
  exact def_ok (k := 0) (ps := [(Str.ofString "one")]) tb_floor_of b_floor_of M AllGood.nil AllGl.nil F sc_floor_of (F.bindsN fun _ _ _ _ _ _ us hl => match us, hl with | [_], _ => rfl) (He.glo_ok X G (c.fact 10 (f := .glo (Str.ofString "floor_of")) rfl)) mono_floor_of pure_floor_of ck_floor_of
theorem sc_ceiling_of : FnScope [(Str.ofString "one")] [(Str.ofString "one")] (defScope (top 14)) := ⟨rfl, rfl, rfl, by decide +kernel, rfl, by decide +kernel, by decide +kernel⟩
theorem ck_ceiling_of : (ckS b_ceiling_of ⟨[(Str.ofString "one")], defScope (top 14), fun _ => true, tb_ceiling_of.fn.map fun q => (q.1, q.2.1), tb_ceiling_of.gl.map (·.1), true⟩).ss (defBody (top 14)) = true := by decide +kernel
theorem good_ceiling_of (c : He.SaysD faL fnL K) (X : K.In h) (G : h.Ns mainGlobals mg) (M : ModG mg base true) : Good P w K mg base 1 (Str.ofString "ceiling_of") 1 sp_ceiling_of := by
  obtain ⟨fd, F⟩ := c.def_ 11 (d := mkD (Str.ofString "ceiling_of") 14) rfl
  exact def_ok (k := 0) (ps := [(Str.ofString "one")]) tb_ceiling_of b_ceiling_of M AllGood.nil AllGl.nil F sc_ceiling_of (F.bindsN fun _ _ _ _ _ _ us hl => match us, hl with | [_], _ => rfl) (He.glo_ok X G (c.fact 11 (f := .glo (Str.ofString "ceiling_of")) rfl)) mono_ceiling_of pure_ceiling_of ck_ceiling_of
theorem sc_nearer_integer : FnScope [(Str.ofString "way"), (Str.ofString "one"), (Str.ofString "low"), (Str.ofString "twice")] [(Str.ofString "way"), (Str.ofString "one"), (Str.ofString "low")] (defScope (top 15)) := ⟨rfl, rfl, rfl, by decide +kernel, rfl, by decide +kernel, by decide +kernel⟩
theorem ck_nearer_integer : (ckS b_nearer_integer ⟨[(Str.ofString "way"), (Str.ofString "one"), (Str.ofString "low"), (Str.ofString "twice")], defScope (top 15), fun _ => true, tb_nearer_integer.fn.map fun q => (q.1, q.2.1), tb_nearer_integer.gl.map (·.1), true⟩).ss (defBody (top 15)) = true := by decide +kernel
theorem good_nearer_integer (c : He.SaysD faL fnL K) (X : K.In h) (G : h.Ns mainGlobals mg) (M : ModG mg base true) : Good P w K mg base 1 (Str.ofString "nearer_integer") 3 sp_nearer_integer := by
  obtain ⟨fd, F⟩ := c.def_ 12 (d := mkD (Str.ofString "nearer_integer") 15) rfl
  exact def_ok (k := 0) (ps := [(Str.ofString "way"), (Str.ofString "one"), (Str.ofString "low")]) tb_nearer_integer b_nearer_integer M AllGood.nil AllGl.nil F sc_nearer_integer (F.bindsN fun _ _ _ _ _ _ us hl => match us, hl with | [_, _, _], _ => rfl) (He.glo_ok X G (c.fact 12 (f := .glo (Str.ofString "nearer_integer")) rfl)) mono_nearer_integer pure_nearer_integer ck_nearer_integer
theorem sc_nearest_integer : FnScope [(Str.ofString "way"), (Str.ofString "one"), (Str.ofString "low"), (Str.ofString "high")] [(Str.ofString "way"), (Str.ofString "one")] (defScope (top 16)) := ⟨rfl, rfl, rfl, by decide +kernel, rfl, by decide +kernel, by decide +kernel⟩
theorem ck_nearest_integer : (ckS b_nearest_integer ⟨[(Str.ofString "way"), (Str.ofString "one"), (Str.ofString "low"), (Str.ofString "high")], defScope (top 16), fun _ => true, tb_nearest_integer.fn.map fun q => (q.1, q.2.1), tb_nearest_integer.gl.map (·.1), true⟩).ss (defBody (top 16)) = true := by decide +kernel
theorem good_nearest_integer (c : He.SaysD faL fnL K) (X : K.In h) (G : h.Ns mainGlobals mg) (M : ModG mg base true) : Good P w K mg base 2 (Str.ofString "nearest_integer") 2 sp_nearest_integer := by
  obtain ⟨fd, F⟩ := c.def_ 13 (d := mkD (Str.ofString "nearest_integer") 16) rfl
  exact def_ok (k := 1) (ps := [(Str.ofString "way"), (Str.ofString "one")]) tb_nearest_integer b_nearest_integer M (.cons ((good_floor_of c X G M).up (by decide)) (.cons ((good_ceiling_of c X G M).up (by decide)) (.cons ((good_nearer_integer c X G M).up (by decide)) AllGood.nil))) AllGl.nil F sc_nearest_integer (F.bindsN fun _ _ _ _ _ _ us hl => match us, hl with | [_, _], _ => rfl) (He.glo_ok X G (c.fact 13 (f := .glo (Str.ofString "nearest_integer")) rfl)) mono_nearest_integer pure_nearest_integer ck_nearest_integer
theorem sc_law_bag : FnScope [(Str.ofString "_law_script"), (Str.ofString "_law_cell")] [(Str.ofString "_law_script")] (defScope (top 18)) := ⟨rfl, rfl, rfl, by decide +kernel, rfl, by decide +kernel, by decide +kernel⟩
theorem ck_law_bag : (ckS b_law_bag ⟨[(Str.ofString "_law_script"), (Str.ofString "_law_cell")], defScope (top 18), fun _ => true, tb_law_bag.fn.map fun q => (q.1, q.2.1), tb_law_bag.gl.map (·.1), true⟩).ss (defBody (top 18)) = true := by decide +kernel
theorem good_law_bag (c : He.SaysD faL fnL K) (X : K.In h) (G : h.Ns mainGlobals mg) (M : ModG mg base true) : Good P w K mg base 1 (Str.ofString "_law_bag") 1 sp_law_bag := by
  obtain ⟨fd, F⟩ := c.def_ 14 (d := mkD (Str.ofString "_law_bag") 18) rfl
  exact def_ok (k := 0) (ps := [(Str.ofString "_law_script")]) tb_law_bag b_law_bag M AllGood.nil AllGl.nil F sc_law_bag (F.bindsN fun _ _ _ _ _ _ us hl => match us, hl with | [_], _ => rfl) (He.glo_ok X G (c.fact 14 (f := .glo (Str.ofString "_law_bag")) rfl)) mono_law_bag pure_law_bag ck_law_bag
theorem sc_law_take : FnScope [(Str.ofString "_law_bag_here"), (Str.ofString "_law_many"), (Str.ofString "_law_begin"), (Str.ofString "_law_second"), (Str.ofString "_law_cell"), (Str.ofString "_law_stirred"), (Str.ofString "_law_value")] [(Str.ofString "_law_bag_here"), (Str.ofString "_law_many")] (defScope (top 19)) := ⟨rfl, rfl, rfl, by decide +kernel, rfl, by decide +kernel, by decide +kernel⟩
theorem ck_law_take : (ckS b_law_take ⟨[(Str.ofString "_law_bag_here"), (Str.ofString "_law_many"), (Str.ofString "_law_begin"), (Str.ofString "_law_second"), (Str.ofString "_law_cell"), (Str.ofString "_law_stirred"), (Str.ofString "_law_value")], defScope (top 19), fun _ => true, tb_law_take.fn.map fun q => (q.1, q.2.1), tb_law_take.gl.map (·.1), true⟩).ss (defBody (top 19)) = true := by decide +kernel
theorem good_law_take (c : He.SaysD faL fnL K) (X : K.In h) (G : h.Ns mainGlobals mg) (M : ModG mg base true) : Good P w K mg base 1 (Str.ofString "_law_take") 2 sp_law_take := by
  obtain ⟨fd, F⟩ := c.def_ 15 (d := mkD (Str.ofString "_law_take") 19) rfl
  exact def_ok (k := 0) (ps := [(Str.ofString "_law_bag_here"), (Str.ofString "_law_many")]) tb_law_take b_law_take M AllGood.nil AllGl.nil F sc_law_take (F.bindsN fun _ _ _ _ _ _ us hl => match us, hl with | [_, _], _ => rfl) (He.glo_ok X G (c.fact 15 (f := .glo (Str.ofString "_law_take")) rfl)) mono_law_take pure_law_take ck_law_take
theorem sc_law_some : FnScope [(Str.ofString "_law_bag_here"), (Str.ofString "_law_things")] [(Str.ofString "_law_bag_here"), (Str.ofString "_law_things")] (defScope (top 20)) := ⟨rfl, rfl, rfl, by decide +kernel, rfl, by decide +kernel, by decide +kernel⟩
theorem ck_law_some : (ckS b_law_some ⟨[(Str.ofString "_law_bag_here"), (Str.ofString "_law_things")], defScope (top 20), fun _ => true, tb_law_some.fn.map fun q => (q.1, q.2.1), tb_law_some.gl.map (·.1), true⟩).ss (defBody (top 20)) = true := by decide +kernel
theorem good_law_some (c : He.SaysD faL fnL K) (X : K.In h) (G : h.Ns mainGlobals mg) (M : ModG mg base true) : Good P w K mg base 2 (Str.ofString "_law_some") 2 sp_law_some := by
  obtain ⟨fd, F⟩ := c.def_ 16 (d := mkD (Str.ofString "_law_some") 20) rfl
  exact def_ok (k := 1) (ps := [(Str.ofString "_law_bag_here"), (Str.ofString "_law_things")]) tb_law_some b_law_some M (.cons ((good_law_take c X G M).up (by decide)) AllGood.nil) AllGl.nil F sc_law_some (F.bindsN fun _ _ _ _ _ _ us hl => match us, hl with | [_, _], _ => rfl) (He.glo_ok X G (c.fact 16 (f := .glo (Str.ofString "_law_some")) rfl)) mono_law_some pure_law_some ck_law_some
theorem sc_law_alike : FnScope [(Str.ofString "_law_found"), (Str.ofString "_law_due")] [(Str.ofString "_law_found"), (Str.ofString "_law_due")] (defScope (top 21)) := ⟨rfl, rfl, rfl, by decide +kernel, rfl, by decide +kernel, by decide +kernel⟩
theorem ck_law_alike : (ckS b_law_alike ⟨[(Str.ofString "_law_found"), (Str.ofString "_law_due")], defScope (top 21), fun _ => true, tb_law_alike.fn.map fun q => (q.1, q.2.1), tb_law_alike.gl.map (·.1), true⟩).ss (defBody (top 21)) = true := by decide +kernel
theorem good_law_alike (c : He.SaysD faL fnL K) (X : K.In h) (G : h.Ns mainGlobals mg) (M : ModG mg base true) : Good P w K mg base 1 (Str.ofString "_law_alike") 2 sp_law_alike := by
  obtain ⟨fd, F⟩ := c.def_ 17 (d := mkD (Str.ofString "_law_alike") 21) rfl
  exact def_ok (k := 0) (ps := [(Str.ofString "_law_found"), (Str.ofString "_law_due")]) tb_law_alike b_law_alike M AllGood.nil AllGl.nil F sc_law_alike (F.bindsN fun _ _ _ _ _ _ us hl => match us, hl with | [_, _], _ => rfl) (He.glo_ok X G (c.fact 17 (f := .glo (Str.ofString "_law_alike")) rfl)) mono_law_alike pure_law_alike ck_law_alike
theorem sc_law_common : FnScope [(Str.ofString "_law_one"), (Str.ofString "_law_other")] [(Str.ofString "_law_one"), (Str.ofString "_law_other")] (defScope (top 22)) := ⟨rfl, rfl, rfl, by decide +kernel, rfl, by decide +kernel, by decide +kernel⟩
theorem ck_law_common : (ckS b_law_common ⟨[(Str.ofString "_law_one"), (Str.ofString "_law_other")], defScope (top 22), fun _ => true, tb_law_common.fn.map fun q => (q.1, q.2.1), tb_law_common.gl.map (·.1), true⟩).ss (defBody (top 22)) = true := by decide +kernel
theorem good_law_common (c : He.SaysD faL fnL K) (X : K.In h) (G : h.Ns mainGlobals mg) (M : ModG mg base true) : Good P w K mg base 1 (Str.ofString "_law_common") 2 sp_law_common := by
  obtain ⟨fd, F⟩ := c.def_ 18 (d := mkD (Str.ofString "_law_common") 22) rfl
  exact def_ok (k := 0) (ps := [(Str.ofString "_law_one"), (Str.ofString "_law_other")]) tb_law_common b_law_common M AllGood.nil AllGl.nil F sc_law_common (F.bindsN fun _ _ _ _ _ _ us hl => match us, hl with | [_, _], _ => rfl) (He.glo_ok X G (c.fact 18 (f := .glo (Str.ofString "_law_common")) rfl)) mono_law_common pure_law_common ck_law_common
theorem sc_law_to : FnScope [(Str.ofString "_law_base"), (Str.ofString "_law_n"), (Str.ofString "_law_found"), (Str.ofString "_law_factor")] [(Str.ofString "_law_base"), (Str.ofString "_law_n")] (defScope (top 23)) := ⟨rfl, rfl, rfl, by decide +kernel, rfl, by decide +kernel, by decide +kernel⟩
theorem ck_law_to : (ckS b_law_to ⟨[(Str.ofString "_law_base"), (Str.ofString "_law_n"), (Str.ofString "_law_found"), (Str.ofString "_law_factor")], defScope (top 23), fun _ => true, tb_law_to.fn.map fun q => (q.1, q.2.1), tb_law_to.gl.map (·.1), true⟩).ss (defBody (top 23)) = true := by decide +kernel
theorem good_law_to (c : He.SaysD faL fnL K) (X : K.In h) (G : h.Ns mainGlobals mg) (M : ModG mg base true) : Good P w K mg base 1 (Str.ofString "_law_to") 2 sp_law_to := by
  obtain ⟨fd, F⟩ := c.def_ 19 (d := mkD (Str.ofString "_law_to") 23) rfl
  exact def_ok (k := 0) (ps := [(Str.ofString "_law_base"), (Str.ofString "_law_n")]) tb_law_to b_law_to M AllGood.nil AllGl.nil F sc_law_to (F.bindsN fun _ _ _ _ _ _ us hl => match us, hl with | [_, _], _ => rfl) (He.glo_ok X G (c.fact 19 (f := .glo (Str.ofString "_law_to")) rfl)) mono_law_to pure_law_to ck_law_to
theorem sc_law_over : FnScope [(Str.ofString "_law_n"), (Str.ofString "_law_d"), (Str.ofString "_law_shared")] [(Str.ofString "_law_n"), (Str.ofString "_law_d")] (defScope (top 24)) := ⟨rfl, rfl, rfl, by decide +kernel, rfl, by decide +kernel, by decide +kernel⟩
theorem ck_law_over : (ckS b_law_over ⟨[(Str.ofString "_law_n"), (Str.ofString "_law_d"), (Str.ofString "_law_shared")], defScope (top 24), fun _ => true, tb_law_over.fn.map fun q => (q.1, q.2.1), tb_law_over.gl.map (·.1), true⟩).ss (defBody (top 24)) = true := by decide +kernel
theorem good_law_over (c : He.SaysD faL fnL K) (X : K.In h) (G : h.Ns mainGlobals mg) (M : ModG mg base true) : Good P w K mg base 2 (Str.ofString "_law_over") 2 sp_law_over := by
  obtain ⟨fd, F⟩ := c.def_ 20 (d := mkD (Str.ofString "_law_over") 24) rfl
  exact def_ok (k := 1) (ps := [(Str.ofString "_law_n"), (Str.ofString "_law_d")]) tb_law_over b_law_over M (.cons ((good_law_common c X G M).up (by decide)) AllGood.nil) AllGl.nil F sc_law_over (F.bindsN fun _ _ _ _ _ _ us hl => match us, hl with | [_, _], _ => rfl) (He.glo_ok X G (c.fact 20 (f := .glo (Str.ofString "_law_over")) rfl)) mono_law_over pure_law_over ck_law_over
theorem sc_law_added : FnScope [(Str.ofString "_law_x"), (Str.ofString "_law_y")] [(Str.ofString "_law_x"), (Str.ofString "_law_y")] (defScope (top 25)) := ⟨rfl, rfl, rfl, by decide +kernel, rfl, by decide +kernel, by decide +kernel⟩
theorem ck_law_added : (ckS b_law_added ⟨[(Str.ofString "_law_x"), (Str.ofString "_law_y")], defScope (top 25), fun _ => true, tb_law_added.fn.map fun q => (q.1, q.2.1), tb_law_added.gl.map (·.1), true⟩).ss (defBody (top 25)) = true := by decide +kernel
theorem good_law_added (c : He.SaysD faL fnL K) (X : K.In h) (G : h.Ns mainGlobals mg) (M : ModG mg base true) : Good P w K mg base 3 (Str.ofString "_law_added") 2 sp_law_added := by
  obtain ⟨fd, F⟩ := c.def_ 21 (d := mkD (Str.ofString "_law_added") 25) rfl
  exact def_ok (k := 2) (ps := [(Str.ofString "_law_x"), (Str.ofString "_law_y")]) tb_law_added b_law_added M (.cons ((good_law_over c X G M).up (by decide)) AllGood.nil) AllGl.nil F sc_law_added (F.bindsN fun _ _ _ _ _ _ us hl => match us, hl with | [_, _], _ => rfl) (He.glo_ok X G (c.fact 21 (f := .glo (Str.ofString "_law_added")) rfl)) mono_law_added pure_law_added ck_law_added
theorem sc_law_lessened : FnScope [(Str.ofString "_law_x"), (Str.ofString "_law_y")] [(Str.ofString "_law_x"), (Str.ofString "_law_y")] (defScope (top 26)) := ⟨rfl, rfl, rfl, by decide +kernel, rfl, by decide +kernel, by decide +kernel⟩
theorem ck_law_lessened : (ckS b_law_lessened ⟨[(Str.ofString "_law_x"), (Str.ofString "_law_y")], defScope (top 26), fun _ => true, tb_law_lessened.fn.map fun q => (q.1, q.2.1), tb_law_lessened.gl.map (·.1), true⟩).ss (defBody (top 26)) = true := by decide +kernel
theorem good_law_lessened (c : He.SaysD faL fnL K) (X : K.In h) (G : h.Ns mainGlobals mg) (M : ModG mg base true) : Good P w K mg base 3 (Str.ofString "_law_lessened") 2 sp_law_lessened := by
  obtain ⟨fd, F⟩ := c.def_ 22 (d := mkD (Str.ofString "_law_lessened") 26) rfl
  exact def_ok (k := 2) (ps := [(Str.ofString "_law_x"), (Str.ofString "_law_y")]) tb_law_lessened b_law_lessened M (.cons ((good_law_over c X G M).up (by decide)) AllGood.nil) AllGl.nil F sc_law_lessened (F.bindsN fun _ _ _ _ _ _ us hl => match us, hl with | [_, _], _ => rfl) (He.glo_ok X G (c.fact 22 (f := .glo (Str.ofString "_law_lessened")) rfl)) mono_law_lessened pure_law_lessened ck_law_lessened
theorem sc_law_multiplied : FnScope [(Str.ofString "_law_x"), (Str.ofString "_law_y")] [(Str.ofString "_law_x"), (Str.ofString "_law_y")] (defScope (top 27)) := ⟨rfl, rfl, rfl, by decide +kernel, rfl, by decide +kernel, by decide +kernel⟩
theorem ck_law_multiplied : (ckS b_law_multiplied ⟨[(Str.ofString "_law_x"), (Str.ofString "_law_y")], defScope (top 27), fun _ => true, tb_law_multiplied.fn.map fun q => (q.1, q.2.1), tb_law_multiplied.gl.map (·.1), true⟩).ss (defBody (top 27)) = true := by decide +kernel
theorem good_law_multiplied (c : He.SaysD faL fnL K) (X : K.In h) (G : h.Ns mainGlobals mg) (M : ModG mg base true) : Good P w K mg base 3 (Str.ofString "_law_multiplied") 2 sp_law_multiplied := by
  obtain ⟨fd, F⟩ := c.def_ 23 (d := mkD (Str.ofString "_law_multiplied") 27) rfl
  exact def_ok (k := 2) (ps := [(Str.ofString "_law_x"), (Str.ofString "_law_y")]) tb_law_multiplied b_law_multiplied M (.cons ((good_law_over c X G M).up (by decide)) AllGood.nil) AllGl.nil F sc_law_multiplied (F.bindsN fun _ _ _ _ _ _ us hl => match us, hl with | [_, _], _ => rfl) (He.glo_ok X G (c.fact 23 (f := .glo (Str.ofString "_law_multiplied")) rfl)) mono_law_multiplied pure_law_multiplied ck_law_multiplied
theorem sc_law_divided : FnScope [(Str.ofString "_law_x"), (Str.ofString "_law_y")] [(Str.ofString "_law_x"), (Str.ofString "_law_y")] (defScope (top 28)) := ⟨rfl, rfl, rfl, by decide +kernel, rfl, by decide +kernel, by decide +kernel⟩
theorem ck_law_divided : (ckS b_law_divided ⟨[(Str.ofString "_law_x"), (Str.ofString "_law_y")], defScope (top 28), fun _ => true, tb_law_divided.fn.map fun q => (q.1, q.2.1), tb_law_divided.gl.map (·.1), true⟩).ss (defBody (top 28)) = true := by decide +kernel
theorem good_law_divided (c : He.SaysD faL fnL K) (X : K.In h) (G : h.Ns mainGlobals mg) (M : ModG mg base true) : Good P w K mg base 3 (Str.ofString "_law_divided") 2 sp_law_divided := by
  obtain ⟨fd, F⟩ := c.def_ 24 (d := mkD (Str.ofString "_law_divided") 28) rfl
  exact def_ok (k := 2) (ps := [(Str.ofString "_law_x"), (Str.ofString "_law_y")]) tb_law_divided b_law_divided M (.cons ((good_law_over c X G M).up (by decide)) AllGood.nil) AllGl.nil F sc_law_divided (F.bindsN fun _ _ _ _ _ _ us hl => match us, hl with | [_, _], _ => rfl) (He.glo_ok X G (c.fact 24 (f := .glo (Str.ofString "_law_divided")) rfl)) mono_law_divided pure_law_divided ck_law_divided
theorem sc_law_is_below : FnScope [(Str.ofString "_law_x"), (Str.ofString "_law_y")] [(Str.ofString "_law_x"), (Str.ofString "_law_y")] (defScope (top 29)) := ⟨rfl, rfl, rfl, by decide +kernel, rfl, by decide +kernel, by decide +kernel⟩
theorem ck_law_is_below : (ckS b_law_is_below ⟨[(Str.ofString "_law_x"), (Str.ofString "_law_y")], defScope (top 29), fun _ => true, tb_law_is_below.fn.map fun q => (q.1, q.2.1), tb_law_is_below.gl.map (·.1), true⟩).ss (defBody (top 29)) = true := by decide +kernel
theorem good_law_is_below (c : He.SaysD faL fnL K) (X : K.In h) (G : h.Ns mainGlobals mg) (M : ModG mg base true) : Good P w K mg base 1 (Str.ofString "_law_is_below") 2 sp_law_is_below := by
  obtain ⟨fd, F⟩ := c.def_ 25 (d := mkD (Str.ofString "_law_is_below") 29) rfl
  exact def_ok (k := 0) (ps := [(Str.ofString "_law_x"), (Str.ofString "_law_y")]) tb_law_is_below b_law_is_below M AllGood.nil AllGl.nil F sc_law_is_below (F.bindsN fun _ _ _ _ _ _ us hl => match us, hl with | [_, _], _ => rfl) (He.glo_ok X G (c.fact 25 (f := .glo (Str.ofString "_law_is_below")) rfl)) mono_law_is_below pure_law_is_below ck_law_is_below
theorem sc_law_sized : FnScope [(Str.ofString "_law_x")] [(Str.ofString "_law_x")] (defScope (top 30)) := ⟨rfl, rfl, rfl, by decide +kernel, rfl, by decide +kernel, by decide +kernel⟩
theorem ck_law_sized : (ckS b_law_sized ⟨[(Str.ofString "_law_x")], defScope (top 30), fun _ => true, tb_law_sized.fn.map fun q => (q.1, q.2.1), tb_law_sized.gl.map (·.1), true⟩).ss (defBody (top 30)) = true := by decide +kernel
theorem good_law_sized (c : He.SaysD faL fnL K) (X : K.In h) (G : h.Ns mainGlobals mg) (M : ModG mg base true) : Good P w K mg base 1 (Str.ofString "_law_sized") 1 sp_law_sized := by
  obtain ⟨fd, F⟩ := c.def_ 26 (d := mkD (Str.ofString "_law_sized") 30) rfl
  exact def_ok (k := 0) (ps := [(Str.ofString "_law_x")]) tb_law_sized b_law_sized M AllGood.nil AllGl.nil F sc_law_sized (F.bindsN fun _ _ _ _ _ _ us hl => match us, hl with | [_], _ => rfl) (He.glo_ok X G (c.fact 26 (f := .glo (Str.ofString "_law_sized")) rfl)) mono_law_sized pure_law_sized ck_law_sized
theorem sc_law_power : FnScope [(Str.ofString "_law_base"), (Str.ofString "_law_e")] [(Str.ofString "_law_base"), (Str.ofString "_law_e")] (defScope (top 31)) := ⟨rfl, rfl, rfl, by decide +kernel, rfl, by decide +kernel, by decide +kernel⟩
theorem ck_law_power : (ckS b_law_power ⟨[(Str.ofString "_law_base"), (Str.ofString "_law_e")], defScope (top 31), fun _ => true, tb_law_power.fn.map fun q => (q.1, q.2.1), tb_law_power.gl.map (·.1), true⟩).ss (defBody (top 31)) = true := by decide +kernel
theorem good_law_power (c : He.SaysD faL fnL K) (X : K.In h) (G : h.Ns mainGlobals mg) (M : ModG mg base true) : Good P w K mg base 2 (Str.ofString "_law_power") 2 sp_law_power := by
  obtain ⟨fd, F⟩ := c.def_ 27 (d := mkD (Str.ofString "_law_power") 31) rfl
  exact def_ok (k := 1) (ps := [(Str.ofString "_law_base"), (Str.ofString "_law_e")]) tb_law_power b_law_power M (.cons ((good_law_to c X G M).up (by decide)) AllGood.nil) AllGl.nil F sc_law_power (F.bindsN fun _ _ _ _ _ _ us hl => match us, hl with | [_, _], _ => rfl) (He.glo_ok X G (c.fact 27 (f := .glo (Str.ofString "_law_power")) rfl)) mono_law_power pure_law_power ck_law_power
theorem sc_law_ways : FnScope [] [] (defScope (top 32)) := ⟨rfl, rfl, rfl, by decide +kernel, rfl, by decide +kernel, by decide +kernel⟩
theorem ck_law_ways : (ckS b_law_ways ⟨[], defScope (top 32), fun _ => true, tb_law_ways.fn.map fun q => (q.1, q.2.1), tb_law_ways.gl.map (·.1), true⟩).ss (defBody (top 32)) = true := by decide +kernel
theorem good_law_ways (c : He.SaysD faL fnL K) (X : K.In h) (G : h.Ns mainGlobals mg) (M : ModG mg base true) : Good P w K mg base 1 (Str.ofString "_law_ways") 0 sp_law_ways := by
  obtain ⟨fd, F⟩ := c.def_ 28 (d := mkD (Str.ofString "_law_ways") 32) rfl
  exact def_ok (k := 0) (ps := []) tb_law_ways b_law_ways M AllGood.nil AllGl.nil F sc_law_ways (F.bindsN fun _ _ _ _ _ _ us hl => match us, hl with | [], _ => rfl) (He.glo_ok X G (c.fact 28 (f := .glo (Str.ofString "_law_ways")) rfl)) mono_law_ways pure_law_ways ck_law_ways
theorem sc_law_compared : FnScope [(Str.ofString "_law_x"), (Str.ofString "_law_y")] [(Str.ofString "_law_x"), (Str.ofString "_law_y")] (defScope (top 33)) := ⟨rfl, rfl, rfl, by decide +kernel, rfl, by decide +kernel, by decide +kernel⟩
theorem ck_law_compared : (ckS b_law_compared ⟨[(Str.ofString "_law_x"), (Str.ofString "_law_y")], defScope (top 33), fun _ => true, tb_law_compared.fn.map fun q => (q.1, q.2.1), tb_law_compared.gl.map (·.1), true⟩).ss (defBody (top 33)) = true := by decide +kernel
theorem good_law_compared (c : He.SaysD faL fnL K) (X : K.In h) (G : h.Ns mainGlobals mg) (M : ModG mg base true) : Good P w K mg base 2 (Str.ofString "_law_compared") 2 sp_law_compared := by
  obtain ⟨fd, F⟩ := c.def_ 29 (d := mkD (Str.ofString "_law_compared") 33) rfl
  exact def_ok (k := 1) (ps := [(Str.ofString "_law_x"), (Str.ofString "_law_y")]) tb_law_compared b_law_compared M (.cons ((good_law_is_below c X G M).up (by decide)) AllGood.nil) AllGl.nil F sc_law_compared (F.bindsN fun _ _ _ _ _ _ us hl => match us, hl with | [_, _], _ => rfl) (He.glo_ok X G (c.fact 29 (f := .glo (Str.ofString "_law_compared")) rfl)) mono_law_compared pure_law_compared ck_law_compared
theorem sc_law_drawn_fraction : FnScope [(Str.ofString "_law_bag_here"), (Str.ofString "_law_way")] [(Str.ofString "_law_bag_here")] (defScope (top 34)) := ⟨rfl, rfl, rfl, by decide +kernel, rfl, by decide +kernel, by decide +kernel⟩
theorem ck_law_drawn_fraction : (ckS b_law_drawn_fraction ⟨[(Str.ofString "_law_bag_here"), (Str.ofString "_law_way")], defScope (top 34), fun _ => true, tb_law_drawn_fraction.fn.map fun q => (q.1, q.2.1), tb_law_drawn_fraction.gl.map (·.1), true⟩).ss (defBody (top 34)) = true := by decide +kernel
theorem good_law_drawn_fraction (c : He.SaysD faL fnL K) (X : K.In h) (G : h.Ns mainGlobals mg) (M : ModG mg base true) : Good P w K mg base 3 (Str.ofString "_law_drawn_fraction") 1 sp_law_drawn_fraction := by
  obtain ⟨fd, F⟩ := c.def_ 30 (d := mkD (Str.ofString "_law_drawn_fraction") 34) rfl
  exact def_ok (k := 2) (ps := [(Str.ofString "_law_bag_here")]) tb_law_drawn_fraction b_law_drawn_fraction M (.cons ((good_law_take c X G M).up (by decide)) (.cons ((good_law_over c X G M).up (by decide)) (.cons ((good_law_some c X G M).up (by decide)) AllGood.nil))) AllGl.nil F sc_law_drawn_fraction (F.bindsN fun _ _ _ _ _ _ us hl => match us, hl with | [_], _ => rfl) (He.glo_ok X G (c.fact 30 (f := .glo (Str.ofString "_law_drawn_fraction")) rfl)) mono_law_drawn_fraction pure_law_drawn_fraction ck_law_drawn_fraction
theorem sc_law_due_integer : FnScope [(Str.ofString "_law_way"), (Str.ofString "_law_x"), (Str.ofString "_law_floor"), (Str.ofString "_law_twice")] [(Str.ofString "_law_way"), (Str.ofString "_law_x")] (defScope (top 35)) := ⟨rfl, rfl, rfl, by decide +kernel, rfl, by decide +kernel, by decide +kernel⟩
theorem ck_law_due_integer : (ckS b_law_due_integer ⟨[(Str.ofString "_law_way"), (Str.ofString "_law_x"), (Str.ofString "_law_floor"), (Str.ofString "_law_twice")], defScope (top 35), fun _ => true, tb_law_due_integer.fn.map fun q => (q.1, q.2.1), tb_law_due_integer.gl.map (·.1), true⟩).ss (defBody (top 35)) = true := by decide +kernel
theorem good_law_due_integer (c : He.SaysD faL fnL K) (X : K.In h) (G : h.Ns mainGlobals mg) (M : ModG mg base true) : Good P w K mg base 1 (Str.ofString "_law_due_integer") 2 sp_law_due_integer := by
  obtain ⟨fd, F⟩ := c.def_ 31 (d := mkD (Str.ofString "_law_due_integer") 35) rfl
  exact def_ok (k := 0) (ps := [(Str.ofString "_law_way"), (Str.ofString "_law_x")]) tb_law_due_integer b_law_due_integer M AllGood.nil AllGl.nil F sc_law_due_integer (F.bindsN fun _ _ _ _ _ _ us hl => match us, hl with | [_, _], _ => rfl) (He.glo_ok X G (c.fact 31 (f := .glo (Str.ofString "_law_due_integer")) rfl)) mono_law_due_integer pure_law_due_integer ck_law_due_integer
theorem sc_law_are_two_right : FnScope [(Str.ofString "_law_one"), (Str.ofString "_law_other"), (Str.ofString "_law_told"), (Str.ofString "_law_due")] [(Str.ofString "_law_one"), (Str.ofString "_law_other")] (defScope (top 36)) := ⟨rfl, rfl, rfl, by decide +kernel, rfl, by decide +kernel, by decide +kernel⟩
theorem ck_law_are_two_right : (ckS b_law_are_two_right ⟨[(Str.ofString "_law_one"), (Str.ofString "_law_other"), (Str.ofString "_law_told"), (Str.ofString "_law_due")], defScope (top 36), fun _ => true, tb_law_are_two_right.fn.map fun q => (q.1, q.2.1), tb_law_are_two_right.gl.map (·.1), true⟩).ss (defBody (top 36)) = true := by decide +kernel
theorem good_law_are_two_right (c : He.SaysD faL fnL K) (X : K.In h) (G : h.Ns mainGlobals mg) (M : ModG mg base true) : Good P w K mg base 4 (Str.ofString "_law_are_two_right") 2 sp_law_are_two_right := by
  obtain ⟨fd, F⟩ := c.def_ 32 (d := mkD (Str.ofString "_law_are_two_right") 36) rfl
  exact def_ok (k := 3) (ps := [(Str.ofString "_law_one"), (Str.ofString "_law_other")]) tb_law_are_two_right b_law_are_two_right M (.cons ((good_added c X G M).up (by decide)) (.cons ((good_lessened c X G M).up (by decide)) (.cons ((good_times c X G M).up (by decide)) (.cons ((good_compared c X G M).up (by decide)) (.cons ((good_size_of c X G M).up (by decide)) (.cons ((good_law_added c X G M).up (by decide)) (.cons ((good_law_lessened c X G M).up (by decide)) (.cons ((good_law_multiplied c X G M).up (by decide)) (.cons ((good_law_compared c X G M).up (by decide)) (.cons ((good_law_alike c X G M).up (by decide)) (.cons ((good_law_sized c X G M).up (by decide)) (.cons ((good_over c X G M).up (by decide)) (.cons ((good_law_divided c X G M).up (by decide)) AllGood.nil))))))))))))) AllGl.nil F sc_law_are_two_right (F.bindsN fun _ _ _ _ _ _ us hl => match us, hl with | [_, _], _ => rfl) (He.glo_ok X G (c.fact 32 (f := .glo (Str.ofString "_law_are_two_right")) rfl)) mono_law_are_two_right pure_law_are_two_right ck_law_are_two_right
theorem sc_law_is_one_right : FnScope [(Str.ofString "_law_bag_here"), (Str.ofString "_law_x"), (Str.ofString "_law_told"), (Str.ofString "_law_by"), (Str.ofString "_law_floor"), (Str.ofString "_law_ceiling"), (Str.ofString "_law_way")] [(Str.ofString "_law_bag_here"), (Str.ofString "_law_x")] (defScope (top 37)) := ⟨rfl, rfl, rfl, by decide +kernel, rfl, by decide +kernel, by decide +kernel⟩
theorem ck_law_is_one_right : (ckS b_law_is_one_right ⟨[(Str.ofString "_law_bag_here"), (Str.ofString "_law_x"), (Str.ofString "_law_told"), (Str.ofString "_law_by"), (Str.ofString "_law_floor"), (Str.ofString "_law_ceiling"), (Str.ofString "_law_way")], defScope (top 37), fun _ => true, tb_law_is_one_right.fn.map fun q => (q.1, q.2.1), tb_law_is_one_right.gl.map (·.1), true⟩).ss (defBody (top 37)) = true := by decide +kernel
theorem good_law_is_one_right (c : He.SaysD faL fnL K) (X : K.In h) (G : h.Ns mainGlobals mg) (M : ModG mg base true) : Good P w K mg base 3 (Str.ofString "_law_is_one_right") 2 sp_law_is_one_right := by
  obtain ⟨fd, F⟩ := c.def_ 33 (d := mkD (Str.ofString "_law_is_one_right") 37) rfl
  exact def_ok (k := 2) (ps := [(Str.ofString "_law_bag_here"), (Str.ofString "_law_x")]) tb_law_is_one_right b_law_is_one_right M (.cons ((good_floor_of c X G M).up (by decide)) (.cons ((good_ceiling_of c X G M).up (by decide)) (.cons ((good_law_alike c X G M).up (by decide)) (.cons ((good_law_ways c X G M).up (by decide)) (.cons ((good_nearest_integer c X G M).up (by decide)) (.cons ((good_law_due_integer c X G M).up (by decide)) (.cons ((good_law_some c X G M).up (by decide)) (.cons ((good_reduced c X G M).up (by decide)) AllGood.nil)))))))) AllGl.nil F sc_law_is_one_right (F.bindsN fun _ _ _ _ _ _ us hl => match us, hl with | [_, _], _ => rfl) (He.glo_ok X G (c.fact 33 (f := .glo (Str.ofString "_law_is_one_right")) rfl)) mono_law_is_one_right pure_law_is_one_right ck_law_is_one_right
theorem sc_law : FnScope [(Str.ofString "_law_script"), (Str.ofString "_law_bag_here"), (Str.ofString "_law_some_here"), (Str.ofString "_law_one"), (Str.ofString "_law_told"), (Str.ofString "_law_said"), (Str.ofString "_law_total"), (Str.ofString "_law_base"), (Str.ofString "_law_e"), (Str.ofString "_law_k")] [(Str.ofString "_law_script")] (defScope (top 38)) := ⟨rfl, rfl, rfl, by decide +kernel, rfl, by decide +kernel, by decide +kernel⟩
theorem ck_law : (ckS b_law ⟨[(Str.ofString "_law_script"), (Str.ofString "_law_bag_here"), (Str.ofString "_law_some_here"), (Str.ofString "_law_one"), (Str.ofString "_law_told"), (Str.ofString "_law_said"), (Str.ofString "_law_total"), (Str.ofString "_law_base"), (Str.ofString "_law_e"), (Str.ofString "_law_k")], defScope (top 38), fun _ => true, tb_law.fn.map fun q => (q.1, q.2.1), tb_law.gl.map (·.1), true⟩).ss (defBody (top 38)) = true := by decide +kernel
theorem fn_law {fd : FuncData} (F : FunD K "law" "law" (defArgs (top 38)) (defBody (top 38)) (defScope (top 38)) [] [] (He.ga K "law") fd) (c : He.SaysD faL fnL K) (X : K.In h) (G : h.Ns mainGlobals mg) (M : ModG mg base true) : FnOkG P w K mg base 5 (He.ga K "law") fd [(Str.ofString "_law_script")] (spG K 1 sp_law) :=
  def_fn (k := 4) tb_law b_law M (.cons ((good_law_bag c X G M).up (by decide)) (.cons ((good_law_drawn_fraction c X G M).up (by decide)) (.cons ((good_law_is_one_right c X G M).up (by decide)) (.cons ((good_law_are_two_right c X G M).up (by decide)) (.cons ((good_law_some c X G M).up (by decide)) (.cons ((good_law_added c X G M).up (by decide)) (.cons ((good_total_of c X G M).up (by decide)) (.cons ((good_law_alike c X G M).up (by decide)) (.cons ((good_law_multiplied c X G M).up (by decide)) (.cons ((good_power_of c X G M).up (by decide)) (.cons ((good_times c X G M).up (by decide)) (.cons ((good_law_power c X G M).up (by decide)) AllGood.nil)))))))))))) AllGl.nil F sc_law pure_law ck_law
end
end VI
open PySem PySem.W PySem.Calls PyProof.Rows
theorem PySem.Challenge.cw_nearestheld_k05_whole_fractions_by_own_s_holds : PySem.Challenge.rw_nearestheld_k05_whole_fractions_by_own_s.Holds := by
  w_on; o_law
  refine HandSHeadRun.head_imp (r := OpenLaw.row PySem.Challenge.rw_nearestheld_k05_whole_fractions_by_own_s) (q := view (OpenLaw.row PySem.Challenge.rw_nearestheld_k05_whole_fractions_by_own_s).prog [0, 38]) (H := VI.hk) (ob := VI.ob) (M := 20000) (loose := VI.loose) (d := HandSHeadRun.topDef (OpenLaw.row PySem.Challenge.rw_nearestheld_k05_whole_fractions_by_own_s).prog 38) (kwd := []) VI.ob_eq
    VI.runs (by kernel_rfl) (by kernel_rfl) (by kernel_rfl) (by rfl) (by first | assumption | decide +kernel) (by decide +kernel) ⟨rfl, rfl, rfl, rfl, rfl, by decide +kernel⟩ ?hw ?hc
  case hw => w_witness2
  case hc =>
    refine VI.walk_ofG (l := PySem.Challenge.rw_nearestheld_k05_whole_fractions_by_own_s) (n := 63) (k := 5) (x := ("_law_script" : PySem.Str)) (f := VI.sp_law) rfl (by decide) (by kernel_rfl) ⟨rfl, by decide, by decide⟩ VI.mono_law ?F VI.plain_law
    intro w mg fa h Y G hmg0
    obtain ⟨K, KX, sx⟩ := Y
    have c := sx.t.d
    have hmg : mg ("law" : PySem.Str) = some (.ref fa) := by
      have e : (HandSHeadRun.topDef (OpenLaw.row PySem.Challenge.rw_nearestheld_k05_whole_fractions_by_own_s).prog 38).name = ("law" : PySem.Str) := by kernel_rfl
      rw [← e]
      exact hmg0
    obtain ⟨fd, F⟩ := c.def_ 34 (d := VI.mkD "law" 38) rfl
    have e := hmg.symm.trans (He.glo_ok KX G (c.fact 34 (f := .glo "law") rfl))
    cases e
    have b := L2.FunD.bindsA (ps := [("_law_script" : PySem.Str)]) F fun _ _ _ _ _ _ us hl => match us, hl with | [_], _ => rfl
    refine ⟨K, fd, KX, fun s v => b s [v] rfl, fun base _ _ nd => VI.fn_law F c KX G ⟨fun x hx => He.free_ok KX G (He.SaysD.facts c (f := .free x) (List.mem_append_right _ (List.mem_map.mpr ⟨x, hx, rfl⟩))), fun _ => PySem.W.mg_of KX G (He.eqO_ok sx.more), nd⟩⟩
